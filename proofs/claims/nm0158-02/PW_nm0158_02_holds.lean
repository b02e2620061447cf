import PyProof.Rows.All
import Wide.All
import OpenK.AllK
import Wide.FinOn
import Lean
import PySem.Challenge.RW_nm0158_02
open PySem PySem.W PyProof.Rows
set_option Elab.async false
set_option linter.unusedVariables false
set_option maxRecDepth 100000

section
namespace Mine

/-- a value as the proofs speak of it: what never changes is told whole, what may change is told by its place -/
inductive V where
  | none
  | bool (b : Bool)
  | int (i : Int)
  | str (s : Str)
  | tup (l : List V)
  | lst (l : List V)
  | sdc (ks : List Str) (vs : List V)
  | idc (ks : List Int) (vs : List V)
  | obj (C : Addr) (ns : List Str) (vs : List V)
  | rng (n : Int)
  | xc (C : Addr) (ks : List Str) (vs : List V)
  | ref (a : Addr)
  | ty (n : String)
  | bi (n : String)

inductive MObj where
  | lst (l : List V)
  | ins (C dx : Addr)
  | ns (ks : List Str) (vs : List V)
  | cell (v : V)
  | exc (C : Addr) (dx : Option Addr)
  | mark

abbrev Store := Addr → Option MObj
noncomputable def upd (σ : Store) (a : Addr) (m : MObj) : Store := fun b => if b = a then some m else σ b
noncomputable def era (σ : Store) (a : Addr) : Store := fun b => if b = a then none else σ b
theorem upd_eq (σ : Store) (a : Addr) (m : MObj) : upd σ a m a = some m := by simp [upd]
theorem upd_ne (σ : Store) {a b : Addr} (m : MObj) (h : b ≠ a) : upd σ a m b = σ b := by simp [upd, h]
theorem era_eq (σ : Store) (a : Addr) : era σ a a = none := by simp [era]
theorem era_ne (σ : Store) {a b : Addr} (h : b ≠ a) : era σ a b = σ b := by simp [era, h]

abbrev tupObj (vs : Array Value) (n : Nat) : Obj := { cls := .type "tuple", data := .seq vs n }
abbrev lstObj (vs : Array Value) (n : Nat) : Obj := { cls := .type "list", data := .seq vs n }
abbrev dctObj (es : Array DictEntry) (n : Nat) : Obj := { cls := .type "dict", data := .dict es n }

noncomputable def rdv {β : Type} {p : β → Prop} (o : Option {b // p b}) : Option β := o.map (·.val)
theorem rdv_eq {β : Type} {p : β → Prop} {o : Option {b // p b}} {b : β} (h : rdv o = some b) : p b := by
  obtain ⟨⟨c, hc⟩, _, rfl⟩ := Option.map_eq_some_iff.mp h
  exact hc
noncomputable def boolOfP (v : Value) (b : Bool) : Prop := v = .bool b
noncomputable def boolOf (v : Value) : Option (Bool) := rdv (p := boolOfP v) (if h : v.ctorIdx = 3 then Value.bool.elim v h fun b => some ⟨b, rfl⟩ else none)
theorem boolOf_eq {v : Value} {b : Bool} (h : boolOf v = some b) : v = .bool b := rdv_eq (p := boolOfP v) h
noncomputable def intOfP (v : Value) (i : Int) : Prop := ∃ t, v = .int i t
noncomputable def intOf (v : Value) : Option (Int) := rdv (p := intOfP v) (if h : v.ctorIdx = 4 then Value.int.elim v h fun i t => some ⟨i, t, rfl⟩ else none)
theorem intOf_eq {v : Value} {i : Int} (h : intOf v = some i) : ∃ t, v = .int i t := rdv_eq (p := intOfP v) h
noncomputable def strOfP (v : Value) (s : Str) : Prop := ∃ t, v = .str s t
noncomputable def strOf (v : Value) : Option (Str) := rdv (p := strOfP v) (if h : v.ctorIdx = 6 then Value.str.elim v h fun s t => some ⟨s, t, rfl⟩ else none)
theorem strOf_eq {v : Value} {s : Str} (h : strOf v = some s) : ∃ t, v = .str s t := rdv_eq (p := strOfP v) h
noncomputable def refOfP (v : Value) (a : Addr) : Prop := v = .ref a
noncomputable def refOf (v : Value) : Option (Addr) := rdv (p := refOfP v) (if h : v.ctorIdx = 10 then Value.ref.elim v h fun a => some ⟨a, rfl⟩ else none)
theorem refOf_eq {v : Value} {a : Addr} (h : refOf v = some a) : v = .ref a := rdv_eq (p := refOfP v) h
noncomputable def typOfP (v : Value) (n : String) : Prop := v = .type n
noncomputable def typOf (v : Value) : Option (String) := rdv (p := typOfP v) (if h : v.ctorIdx = 8 then Value.type.elim v h fun n => some ⟨n, rfl⟩ else none)
theorem typOf_eq {v : Value} {n : String} (h : typOf v = some n) : v = .type n := rdv_eq (p := typOfP v) h
noncomputable def bltOfP (v : Value) (n : String) : Prop := v = .builtin n
noncomputable def bltOf (v : Value) : Option (String) := rdv (p := bltOfP v) (if h : v.ctorIdx = 9 then Value.builtin.elim v h fun n => some ⟨n, rfl⟩ else none)
theorem bltOf_eq {v : Value} {n : String} (h : bltOf v = some n) : v = .builtin n := rdv_eq (p := bltOfP v) h
noncomputable def nameOfP (v : Expr) (x : Str) : Prop := ∃ p, v = .Name x p
noncomputable def nameOf (v : Expr) : Option (Str) := rdv (p := nameOfP v) (if h : v.ctorIdx = 23 then Expr.Name.elim v h fun x p => some ⟨x, p, rfl⟩ else none)
theorem nameOf_eq {v : Expr} {x : Str} (h : nameOf v = some x) : ∃ p, v = .Name x p := rdv_eq (p := nameOfP v) h
noncomputable def tupOfP (v : V) (l : List V) : Prop := v = .tup l
noncomputable def tupOf (v : V) : Option (List V) := rdv (p := tupOfP v) (if h : v.ctorIdx = 4 then V.tup.elim v h fun l => some ⟨l, rfl⟩ else none)
theorem tupOf_eq {v : V} {l : List V} (h : tupOf v = some l) : v = .tup l := rdv_eq (p := tupOfP v) h
noncomputable def asIntP (v : V) (i : Int) : Prop := v = .int i
noncomputable def asInt (v : V) : Option (Int) := rdv (p := asIntP v) (if h : v.ctorIdx = 2 then V.int.elim v h fun i => some ⟨i, rfl⟩ else none)
theorem asInt_eq {v : V} {i : Int} (h : asInt v = some i) : v = .int i := rdv_eq (p := asIntP v) h
noncomputable def asStrP (v : V) (s : Str) : Prop := v = .str s
noncomputable def asStr (v : V) : Option (Str) := rdv (p := asStrP v) (if h : v.ctorIdx = 3 then V.str.elim v h fun s => some ⟨s, rfl⟩ else none)
theorem asStr_eq {v : V} {s : Str} (h : asStr v = some s) : v = .str s := rdv_eq (p := asStrP v) h
noncomputable def clsDP (v : Data) (c : ClassData) : Prop := v = .cls c
noncomputable def clsD (v : Data) : Option (ClassData) := rdv (p := clsDP v) (if h : v.ctorIdx = 8 then Data.cls.elim v h fun c => some ⟨c, rfl⟩ else none)
theorem clsD_eq {v : Data} {c : ClassData} (h : clsD v = some c) : v = .cls c := rdv_eq (p := clsDP v) h
noncomputable def seqDP (v : Data) (p : Array Value × Nat) : Prop := v = .seq p.1 p.2
noncomputable def seqD (v : Data) : Option (Array Value × Nat) := rdv (p := seqDP v) (if h : v.ctorIdx = 2 then Data.seq.elim v h fun vs n => some ⟨(vs, n), rfl⟩ else none)
theorem seqD_eq {v : Data} {p : Array Value × Nat} (h : seqD v = some p) : v = .seq p.1 p.2 := rdv_eq (p := seqDP v) h
noncomputable def dicDP (v : Data) (p : Array DictEntry × Nat) : Prop := v = .dict p.1 p.2
noncomputable def dicD (v : Data) : Option (Array DictEntry × Nat) := rdv (p := dicDP v) (if h : v.ctorIdx = 3 then Data.dict.elim v h fun es n => some ⟨(es, n), rfl⟩ else none)
theorem dicD_eq {v : Data} {p : Array DictEntry × Nat} (h : dicD v = some p) : v = .dict p.1 p.2 := rdv_eq (p := dicDP v) h
noncomputable def noneOfP (v : Value) (_ : Unit) : Prop := v = .none
noncomputable def noneOf (v : Value) : Option Unit := rdv (p := noneOfP v) (if h : v.ctorIdx = 0 then Value.none.elim v h (some ⟨(), rfl⟩) else none)
theorem noneOf_eq {v : Value} (h : noneOf v = some ()) : v = .none := rdv_eq (p := noneOfP v) h
theorem lenS {α : Type} {l : List α} {n : Nat} (h : l.length = n + 1) : ∃ a r, l = a :: r ∧ r.length = n := by
  cases l with
  | nil => cases h
  | cons a r => exact ⟨a, r, rfl, Nat.succ.inj h⟩
theorem len0 {α : Type} {l : List α} (h : l.length = 0) : l = [] := List.length_eq_zero_iff.mp h
theorem len1 {α : Type} {l : List α} (h : l.length = 1) : ∃ a, l = [a] := let ⟨a, _, e, k⟩ := lenS h; ⟨a, by rw [e, len0 k]⟩
theorem len2 {α : Type} {l : List α} (h : l.length = 2) : ∃ a b, l = [a, b] := let ⟨a, _, e, k⟩ := lenS h; let ⟨b, e'⟩ := len1 k; ⟨a, b, by rw [e, e']⟩
theorem len3 {α : Type} {l : List α} (h : l.length = 3) : ∃ a b c, l = [a, b, c] := let ⟨a, _, e, k⟩ := lenS h; let ⟨b, c, e'⟩ := len2 k; ⟨a, b, c, by rw [e, e']⟩
theorem len4 {α : Type} {l : List α} (h : l.length = 4) : ∃ a b c d, l = [a, b, c, d] := let ⟨a, _, e, k⟩ := lenS h; let ⟨b, c, d, e'⟩ := len3 k; ⟨a, b, c, d, by rw [e, e']⟩
theorem len5 {α : Type} {l : List α} (h : l.length = 5) : ∃ a b c d x, l = [a, b, c, d, x] := let ⟨a, _, e, k⟩ := lenS h; let ⟨b, c, d, x, e'⟩ := len4 k; ⟨a, b, c, d, x, by rw [e, e']⟩
theorem len6 {α : Type} {l : List α} (h : l.length = 6) : ∃ a b c d x y, l = [a, b, c, d, x, y] := let ⟨a, _, e, k⟩ := lenS h; let ⟨b, c, d, x, y, e'⟩ := len5 k; ⟨a, b, c, d, x, y, by rw [e, e']⟩
/-- a text of a size that fits -/
noncomputable def Fit (s : Str) : Prop := PyData.strOk s = true ∧ s.length ≤ 2 ^ 20

/-- a dict's entries with their keys' hashes: texts, ints -/
noncomputable def KS (P : Params) : List Str → List DictEntry → Prop
  | [], l => l = []
  | k :: ks, l => ∃ e es t, l = e :: es ∧ e.key = .str k t ∧ e.hash = PyData.keyHash P k ∧ Fit k ∧ KS P ks es
noncomputable def KI : List Int → List DictEntry → Prop
  | [], l => l = []
  | k :: ks, l => ∃ e es t, l = e :: es ∧ e.key = .int k t ∧ e.hash = hashInt k ∧ KI ks es

mutual
noncomputable def RelV (P : Params) (σ : Store) (h : Heap) : V → Value → Prop
  | .none, v => v = .none
  | .bool b, v => v = .bool b
  | .int i, v => ∃ t, v = .int i t
  | .str s, v => Fit s ∧ ∃ t, v = .str s t
  | .tup l, v => ∃ a vs n, v = .ref a ∧ σ a = none ∧ h.get? a = some (tupObj vs n) ∧ RelVs P σ h l vs.toList
  | .lst l, v => ∃ a vs n, v = .ref a ∧ σ a = none ∧ h.get? a = some (lstObj vs n) ∧ RelVs P σ h l vs.toList
  | .sdc ks vs, v => ∃ a es n, v = .ref a ∧ (σ a = none ∧ (a == sysModules) = false) ∧ h.get? a = some (dctObj es n) ∧ KS P ks es.toList ∧ RelVs P σ h vs (es.toList.map (·.val))
  | .idc ks vs, v => ∃ a es n, v = .ref a ∧ (σ a = none ∧ (a == sysModules) = false) ∧ h.get? a = some (dctObj es n) ∧ KI ks es.toList ∧ RelVs P σ h vs (es.toList.map (·.val))
  | .obj C ns vs, v => ∃ a dx es n, v = .ref a ∧ σ a = none ∧ σ dx = none ∧ h.get? a = some (instObj C dx) ∧ h.get? dx = some (dctObj es n)
      ∧ RelKs ns (es.toList.map (·.key)) ∧ RelVs P σ h vs (es.toList.map (·.val))
  | .rng n, v => ∃ a t u w, v = .ref a ∧ σ a = none ∧ h.get? a = some { cls := .type "range", data := .fields #[.int 0 t, .int n u, .int 1 w] }
  | .xc C ks vs, v => ∃ a dx o es n, v = .ref a ∧ σ a = none ∧ σ dx = none ∧ h.get? a = some o ∧ o.cls = .ref C ∧ o.dict = some dx ∧ notCls o = true ∧ h.get? dx = some (dctObj es n)
      ∧ RelKs ks (es.toList.map (·.key)) ∧ RelVs P σ h vs (es.toList.map (·.val))
  | .ref a, v => v = .ref a
  | .ty n, v => v = .type n
  | .bi n, v => v = .builtin n
noncomputable def RelVs (P : Params) (σ : Store) (h : Heap) : List V → List Value → Prop
  | [], l => l = []
  | x :: xs, l => ∃ v vs, l = v :: vs ∧ RelV P σ h x v ∧ RelVs P σ h xs vs
noncomputable def RelKs : List Str → List Value → Prop
  | [], l => l = []
  | x :: xs, l => ∃ t vs, l = .str x t :: vs ∧ RelKs xs vs
end

/-- the same object, but for its slots -/
noncomputable def SlotsEq (o o' : Obj) : Prop := ∃ sl, o' = { o with slots := sl }
theorem SlotsEq.refl (o : Obj) : SlotsEq o o := ⟨o.slots, rfl⟩
theorem SlotsEq.trans {a b c : Obj} (x : SlotsEq a b) (y : SlotsEq b c) : SlotsEq a c := by
  obtain ⟨sl, rfl⟩ := x
  obtain ⟨sl', rfl⟩ := y
  exact ⟨sl', rfl⟩
theorem SlotsEq.data {a b : Obj} (x : SlotsEq a b) : b.data = a.data := by
  obtain ⟨_, rfl⟩ := x; rfl

/-- what stands still: what is none of the store's own; of what is marked, all but the slots -/
noncomputable def Keep (σ : Store) (h h' : Heap) : Prop := ∀ b o, h.get? b = some o → (σ b = none → h'.get? b = some o) ∧ (σ b = some .mark → ∃ o', h'.get? b = some o' ∧ SlotsEq o o')
noncomputable def KeepL (L : Addr) (σ : Store) (h h' : Heap) : Prop := ∀ b o, h.get? b = some o → (σ b = none → h'.get? b = some o) ∧ (σ b = some .mark → b ≠ L → ∃ o', h'.get? b = some o' ∧ SlotsEq o o')
/-- the store's reach never grows over what stood -/
noncomputable def Dom (σ σ' : Store) (h : Heap) : Prop := ∀ b o, h.get? b = some o → (σ b = none → σ' b = none) ∧ (σ b = some .mark → σ' b = some .mark) ∧ ∀ v, σ b = some (.cell v) → ∃ v', σ' b = some (.cell v')
noncomputable def Live (h h' : Heap) : Prop := ∀ b o, h.get? b = some o → ∃ o', h'.get? b = some o'
theorem Live.refl (h : Heap) : Live h h := fun _ o e => ⟨o, e⟩
theorem Live.trans {h₁ h₂ h₃ : Heap} (x : Live h₁ h₂) (y : Live h₂ h₃) : Live h₁ h₃ := fun b o e => let ⟨o', e'⟩ := x b o e; y b o' e'

theorem Keep.refl (σ : Store) (h : Heap) : Keep σ h h := fun _ o e => ⟨fun _ => e, fun _ => ⟨o, e, .refl o⟩⟩
theorem Dom.refl (σ : Store) (h : Heap) : Dom σ σ h := fun _ _ _ => ⟨id, id, fun v e => ⟨v, e⟩⟩
theorem Keep.trans {σ σ' : Store} {h₁ h₂ h₃ : Heap} (x : Keep σ h₁ h₂) (d : Dom σ σ' h₁) (y : Keep σ' h₂ h₃) : Keep σ h₁ h₃ := fun b o e => by
  refine ⟨fun s => (y b o ((x b o e).1 s)).1 ((d b o e).1 s), fun s => ?_⟩
  obtain ⟨o', e', q⟩ := (x b o e).2 s
  obtain ⟨o'', e'', q'⟩ := (y b o' e').2 ((d b o e).2.1 s)
  exact ⟨o'', e'', q.trans q'⟩
theorem Dom.trans {σ₁ σ₂ σ₃ : Store} {h₁ h₂ : Heap} (x : Dom σ₁ σ₂ h₁) (k : Live h₁ h₂) (y : Dom σ₂ σ₃ h₂) : Dom σ₁ σ₃ h₁ := fun b o e => by
  obtain ⟨o', e'⟩ := k b o e
  refine ⟨fun s => (y b o' e').1 ((x b o e).1 s), fun s => (y b o' e').2.1 ((x b o e).2.1 s), fun v s => ?_⟩
  obtain ⟨v', s'⟩ := (x b o e).2.2 v s
  exact (y b o' e').2.2 v' s'
theorem Keep.l {σ : Store} {h h' : Heap} (x : Keep σ h h') (L : Addr) : KeepL L σ h h' := fun b o e => ⟨(x b o e).1, fun s _ => (x b o e).2 s⟩
theorem KeepL.refl (L : Addr) (σ : Store) (h : Heap) : KeepL L σ h h := (Keep.refl σ h).l L
theorem KeepL.trans {L : Addr} {σ σ' : Store} {h₁ h₂ h₃ : Heap} (x : KeepL L σ h₁ h₂) (d : Dom σ σ' h₁) (y : KeepL L σ' h₂ h₃) : KeepL L σ h₁ h₃ := fun b o e => by
  refine ⟨fun s => (y b o ((x b o e).1 s)).1 ((d b o e).1 s), fun s n => ?_⟩
  obtain ⟨o', e', q⟩ := (x b o e).2 s n
  obtain ⟨o'', e'', q'⟩ := (y b o' e').2 ((d b o e).2.1 s) n
  exact ⟨o'', e'', q.trans q'⟩

/-- an object of the kinds that values are told of -/
noncomputable def Dat (o : Obj) : Prop := o.cls = .type "tuple" ∨ o.cls = .type "list" ∨ o.cls = .type "dict" ∨ (∃ C, o.cls = .ref C) ∨ o.cls = .type "range"
mutual
theorem RelV.monoD {P : Params} {σ σ' : Store} {h h' : Heap} (k : ∀ b o, h.get? b = some o → σ b = none → Dat o → h'.get? b = some o ∧ σ' b = none) :
    ∀ {x : V} {v : Value}, RelV P σ h x v → RelV P σ' h' x v
  | .none, _, e => e
  | .bool _, _, e => e
  | .int _, _, e => e
  | .str _, _, e => e
  | .ref _, _, e => e
  | .ty _, _, e => e
  | .bi _, _, e => e
  | .xc C ks vs, _, e => by
    obtain ⟨a, dx, o, es, n, rfl, hs, hsx, ho, hc, hdi, hn, hd, hk, hq⟩ := e
    obtain ⟨k1, k2⟩ := k a _ ho hs (.inr (.inr (.inr (.inl ⟨C, hc⟩))))
    obtain ⟨k3, k4⟩ := k dx _ hd hsx (.inr (.inr (.inl rfl)))
    exact ⟨a, dx, o, es, n, rfl, k2, k4, k1, hc, hdi, hn, k3, hk, RelVs.monoD k hq⟩
  | .rng n, _, e => by
    obtain ⟨a, t, u, w, rfl, hs, ho⟩ := e
    obtain ⟨k1, k2⟩ := k a _ ho hs (.inr (.inr (.inr (.inr rfl))))
    exact ⟨a, t, u, w, rfl, k2, k1⟩
  | .tup l, _, e => by
    obtain ⟨a, vs, n, rfl, hs, ho, hr⟩ := e
    obtain ⟨k1, k2⟩ := k a _ ho hs (.inl rfl)
    exact ⟨a, vs, n, rfl, k2, k1, RelVs.monoD k hr⟩
  | .lst l, _, e => by
    obtain ⟨a, vs, n, rfl, hs, ho, hr⟩ := e
    obtain ⟨k1, k2⟩ := k a _ ho hs (.inr (.inl rfl))
    exact ⟨a, vs, n, rfl, k2, k1, RelVs.monoD k hr⟩
  | .sdc ks vs, _, e => by
    obtain ⟨a, es, n, rfl, ⟨hs, hy⟩, ho, hr, hq⟩ := e
    obtain ⟨k1, k2⟩ := k a _ ho hs (.inr (.inr (.inl rfl)))
    exact ⟨a, es, n, rfl, ⟨k2, hy⟩, k1, hr, RelVs.monoD k hq⟩
  | .idc ks vs, _, e => by
    obtain ⟨a, es, n, rfl, ⟨hs, hy⟩, ho, hr, hq⟩ := e
    obtain ⟨k1, k2⟩ := k a _ ho hs (.inr (.inr (.inl rfl)))
    exact ⟨a, es, n, rfl, ⟨k2, hy⟩, k1, hr, RelVs.monoD k hq⟩
  | .obj C ns vs, _, e => by
    obtain ⟨a, dx, es, n, rfl, hs, hsx, ho, hd, hk, hq⟩ := e
    obtain ⟨k1, k2⟩ := k a _ ho hs (.inr (.inr (.inr (.inl ⟨C, rfl⟩))))
    obtain ⟨k3, k4⟩ := k dx _ hd hsx (.inr (.inr (.inl rfl)))
    exact ⟨a, dx, es, n, rfl, k2, k4, k1, k3, hk, RelVs.monoD k hq⟩
theorem RelVs.monoD {P : Params} {σ σ' : Store} {h h' : Heap} (k : ∀ b o, h.get? b = some o → σ b = none → Dat o → h'.get? b = some o ∧ σ' b = none) :
    ∀ {l : List V} {vs : List Value}, RelVs P σ h l vs → RelVs P σ' h' l vs
  | [], _, e => e
  | _ :: _, _, e => by
    obtain ⟨v, vs, rfl, h1, h2⟩ := e
    exact ⟨v, vs, rfl, RelV.monoD k h1, RelVs.monoD k h2⟩
end

theorem RelV.mono {P : Params} {σ σ' : Store} {h h' : Heap} (k : ∀ b o, h.get? b = some o → σ b = none → h'.get? b = some o ∧ σ' b = none) {x : V} {v : Value} (r : RelV P σ h x v) : RelV P σ' h' x v := r.monoD fun b o e z _ => k b o e z
theorem RelVs.mono {P : Params} {σ σ' : Store} {h h' : Heap} (k : ∀ b o, h.get? b = some o → σ b = none → h'.get? b = some o ∧ σ' b = none) {x : List V} {v : List Value} (r : RelVs P σ h x v) : RelVs P σ' h' x v := r.monoD fun b o e z _ => k b o e z

theorem RelV.step {P : Params} {σ σ' : Store} {h h' : Heap} {x : V} {v : Value} (r : RelV P σ h x v) (k : Keep σ h h') (d : Dom σ σ' h) : RelV P σ' h' x v :=
  r.mono fun b o e s => ⟨(k b o e).1 s, (d b o e).1 s⟩
theorem RelVs.step {P : Params} {σ σ' : Store} {h h' : Heap} {x : List V} {v : List Value} (r : RelVs P σ h x v) (k : Keep σ h h') (d : Dom σ σ' h) : RelVs P σ' h' x v :=
  r.mono fun b o e s => ⟨(k b o e).1 s, (d b o e).1 s⟩
theorem RelV.stepL {P : Params} {σ σ' : Store} {h h' : Heap} {L : Addr} {x : V} {v : Value} (r : RelV P σ h x v) (k : KeepL L σ h h') (d : Dom σ σ' h) : RelV P σ' h' x v :=
  r.mono fun b o e s => ⟨(k b o e).1 s, (d b o e).1 s⟩

noncomputable def ConcO (P : Params) (σ : Store) (h : Heap) : MObj → Obj → Prop
  | .lst l, o => ∃ vs n, o = lstObj vs n ∧ RelVs P σ h l vs.toList
  | .ins C dx, o => o = instObj C dx
  | .ns ks vs, o => ∃ es n, o = dctObj es n ∧ RelKs ks (es.toList.map (·.key)) ∧ RelVs P σ h vs (es.toList.map (·.val))
  | .cell v, o => (v = .bi "" ∧ o.data = .cell none) ∨ ∃ w, o.data = .cell (some w) ∧ RelV P σ h v w
  | .exc C dx, o => o.cls = .ref C ∧ o.dict = dx ∧ o.slots = #[] ∧ ∃ vs, o.data = .fields vs ∧ vs.size = 6 ∧ vs[1]? = some .none
  | .mark, _ => True
noncomputable def Sim (P : Params) (σ : Store) (h : Heap) : Prop := ∀ a m, σ a = some m → ∃ o, h.get? a = some o ∧ ConcO P σ h m o

theorem ConcO.monoD {P : Params} {σ σ' : Store} {h h' : Heap} (k : ∀ b o, h.get? b = some o → σ b = none → Dat o → h'.get? b = some o ∧ σ' b = none) {m : MObj} {o : Obj} (c : ConcO P σ h m o) : ConcO P σ' h' m o := by
  cases m with
  | lst l => obtain ⟨vs, n, e, r⟩ := c; exact ⟨vs, n, e, r.monoD k⟩
  | ins C dx => exact c
  | ns ks vs => obtain ⟨es, n, e, r, q⟩ := c; exact ⟨es, n, e, r, q.monoD k⟩
  | cell v => rcases c with c | ⟨w, e, r⟩
              · exact .inl c
              · exact .inr ⟨w, e, r.monoD k⟩
  | exc C dx => exact c
  | mark => trivial

theorem ConcO.mono {P : Params} {σ σ' : Store} {h h' : Heap} (k : ∀ b o, h.get? b = some o → σ b = none → h'.get? b = some o ∧ σ' b = none) {m : MObj} {o : Obj} (c : ConcO P σ h m o) : ConcO P σ' h' m o := c.monoD fun b o e z _ => k b o e z

theorem RelVs.length {P : Params} {σ : Store} {h : Heap} : ∀ {l : List V} {vs : List Value}, RelVs P σ h l vs → vs.length = l.length
  | [], _, e => by cases e; rfl
  | _ :: _, _, e => by obtain ⟨v, vs, rfl, _, h2⟩ := e; simp [RelVs.length h2]
theorem RelVs.get {P : Params} {σ : Store} {h : Heap} : ∀ {l : List V} {vs : List Value} (i : Nat) {x : V}, RelVs P σ h l vs → l[i]? = some x → ∃ v, vs[i]? = some v ∧ RelV P σ h x v
  | [], _, _, _, _, q => by simp at q
  | y :: l, _, 0, _, e, q => by
    obtain ⟨v, vs, rfl, h1, _⟩ := e
    simp at q; subst q
    exact ⟨v, by simp, h1⟩
  | y :: l, _, i + 1, _, e, q => by
    obtain ⟨v, vs, rfl, _, h2⟩ := e
    simp at q
    obtain ⟨w, hw, r⟩ := RelVs.get i h2 q
    exact ⟨w, by simpa using hw, r⟩
theorem RelVs.append {P : Params} {σ : Store} {h : Heap} : ∀ {l l' : List V} {vs vs' : List Value}, RelVs P σ h l vs → RelVs P σ h l' vs' → RelVs P σ h (l ++ l') (vs ++ vs')
  | [], _, _, _, e, q => by cases e; exact q
  | _ :: _, _, _, _, e, q => by
    obtain ⟨v, vs, rfl, h1, h2⟩ := e
    exact ⟨v, _, rfl, h1, RelVs.append h2 q⟩
theorem RelVs.nil {P : Params} {σ : Store} {h : Heap} : RelVs P σ h [] [] := rfl
theorem RelVs.cons {P : Params} {σ : Store} {h : Heap} {x : V} {v : Value} {l : List V} {vs : List Value} (r : RelV P σ h x v) (q : RelVs P σ h l vs) : RelVs P σ h (x :: l) (v :: vs) := ⟨v, vs, rfl, r, q⟩

/-- a turn of the machine: the same world, a heap that keeps what stands still -/
structure After (σ σ' : Store) (s s' : Shared) : Prop where
  same : ∃ h' tk, s' = { s with heap := h', toks := tk }
  keep : Keep σ s.heap s'.heap
  dom : Dom σ σ' s.heap
  live : Live s.heap s'.heap
theorem After.refl (σ : Store) (s : Shared) : After σ σ s s := ⟨⟨s.heap, s.toks, rfl⟩, Keep.refl σ s.heap, Dom.refl σ s.heap, Live.refl _⟩
theorem After.trans {σ₁ σ₂ σ₃ : Store} {s₁ s₂ s₃ : Shared} (x : After σ₁ σ₂ s₁ s₂) (y : After σ₂ σ₃ s₂ s₃) : After σ₁ σ₃ s₁ s₃ := by
  obtain ⟨⟨h, t, rfl⟩, k, d, l⟩ := x
  obtain ⟨⟨h', t', rfl⟩, k', d', l'⟩ := y
  exact ⟨⟨h', t', rfl⟩, k.trans d k', d.trans l d', l.trans l'⟩
theorem After.tok (σ : Store) (s : Shared) (t : Nat) : After σ σ s { s with toks := t } := ⟨⟨s.heap, t, rfl⟩, Keep.refl σ s.heap, Dom.refl σ s.heap, Live.refl _⟩
structure AfterL (L : Addr) (σ σ' : Store) (s s' : Shared) : Prop where
  same : ∃ h' tk, s' = { s with heap := h', toks := tk }
  keep : KeepL L σ s.heap s'.heap
  dom : Dom σ σ' s.heap
  live : Live s.heap s'.heap
theorem After.l {σ σ' : Store} {s s' : Shared} (x : After σ σ' s s') (L : Addr) : AfterL L σ σ' s s' := ⟨x.same, x.keep.l L, x.dom, x.live⟩
theorem AfterL.refl (L : Addr) (σ : Store) (s : Shared) : AfterL L σ σ s s := (After.refl σ s).l L
theorem AfterL.trans {L : Addr} {σ₁ σ₂ σ₃ : Store} {s₁ s₂ s₃ : Shared} (x : AfterL L σ₁ σ₂ s₁ s₂) (y : AfterL L σ₂ σ₃ s₂ s₃) : AfterL L σ₁ σ₃ s₁ s₃ := by
  obtain ⟨⟨h, t, rfl⟩, k, d, l⟩ := x
  obtain ⟨⟨h', t', rfl⟩, k', d', l'⟩ := y
  exact ⟨⟨h', t', rfl⟩, k.trans d k', d.trans l d', l.trans l'⟩
end Mine
end

section
namespace Mine

structure Exn where
  C : Addr
  ks : List Str
  vs : List V

noncomputable def noStore : Store := fun _ => none
/-- a scalar: what it is hangs on no heap -/
noncomputable def Scals (P : Params) (l : List V) (vs : List Value) : Prop := RelVs P noStore {} l vs

inductive TbR (h0 h : Heap) (ea : Addr) (vs : Array Value) (q : Option Value → Prop) : Prop
  | mk (T : Addr) (oT : Obj) (ts : Array Value) (f : Value) (h1 : vs[1]? = some (.ref T)) (h2 : h0.get? T = none) (h3 : T ≠ ea) (h4 : h.get? T = some oT) (h5 : oT.data = .fields ts) (h6 : ts[3]? = some f) (h7 : q (some f))
noncomputable def TbOk (h0 h : Heap) (ea : Addr) (vs : Array Value) (q : Option Value → Prop) : Prop :=
  (vs[1]? = some .none ∧ q none) ∨ TbR h0 h ea vs q
structure UpR (P : Params) (h0 : Heap) (x : Exn) (dx : Addr) (es : Array DictEntry) (n : Nat) (h : Heap) : Prop where
  n0 : h0.get? dx = none
  hd : h.get? dx = some (dctObj es n)
  ks : RelKs x.ks (es.toList.map (·.key))
  vs : Scals P x.vs (es.toList.map (·.val))

/-- an exception of the text's own in the air: its class, its own names and what they hold; it was made behind h0 -/
inductive Up (P : Params) (h0 : Heap) (x : Exn) (q : Option Value → Prop) (e : Value) (h : Heap) : Prop
  | mk (ea dx : Addr) (oe : Obj) (vs : Array Value) (es : Array DictEntry) (n : Nat) (h1 : e = .ref ea) (h2 : h0.get? ea = none) (h3 : h.get? ea = some oe) (h4 : oe.cls = .ref x.C) (h5 : oe.dict = some dx) (h6 : oe.data = .fields vs) (h7 : 1 < vs.size) (h8 : TbOk h0 h ea vs q) (r : UpR P h0 x dx es n h)

abbrev Frames (base h : Heap) (l : List Env) : Prop := h.FunFrames base l
abbrev frs (l : List Env) : List Addr := l.filterMap (·.frame)

noncomputable def AirStep (S : List Addr) (h0 h h' : Heap) : Prop :=
  (∀ b o, h.get? b = some o → (h0.get? b).isSome = true → (b ∉ S → h'.get? b = some o) ∧ ∃ o', h'.get? b = some o' ∧ SlotsEq o o') ∧ Live h h'
theorem AirStep.refl (S : List Addr) (h0 h : Heap) : AirStep S h0 h h := ⟨fun _ o e _ => ⟨fun _ => e, o, e, .refl o⟩, .refl h⟩
theorem AirStep.trans {S : List Addr} {h0 h₁ h₂ h₃ : Heap} (x : AirStep S h0 h₁ h₂) (y : AirStep S h0 h₂ h₃) : AirStep S h0 h₁ h₃ := by
  refine ⟨fun b o e s => ⟨fun n => ?_, ?_⟩, x.2.trans y.2⟩
  · exact (y.1 b o ((x.1 b o e s).1 n) s).1 n
  · obtain ⟨o', e', q⟩ := (x.1 b o e s).2
    obtain ⟨o'', e'', q'⟩ := (y.1 b o' e' s).2
    exact ⟨o'', e'', q.trans q'⟩

theorem mapFields_cls (o : Obj) (f : Array Value → Array Value) : (Obj.mapFields f o).cls = o.cls := by
  obtain ⟨c, d, dt, s⟩ := o; cases dt <;> rfl
theorem mapFields_dict (o : Obj) (f : Array Value → Array Value) : (Obj.mapFields f o).dict = o.dict := by
  obtain ⟨c, d, dt, s⟩ := o; cases dt <;> rfl

section
variable {M : Model} {A : Around} {E : Value → Shared → Prop} {s : Shared} {P : Params} {base h0 : Heap} {x : Exn} {q : Option Value → Prop} {e : Value}

theorem frameOf_same {env fenv : Env} (h : env.frame = fenv.frame) : PySem.frameOf env = PySem.frameOf fenv := by unfold PySem.frameOf; rw [h]

theorem Frames.of' {h h' : Heap} {l : List Env} (F : Frames base h l) (k : ∀ b o, b ∈ frs l → h.get? b = some o → (∀ vs, o.data ≠ .fields vs) → ∃ o', h'.get? b = some o' ∧ SlotsEq o o') : Frames base h' l := by
  have aux : ∀ {l' : List Env}, (∀ a ∈ frs l', a ∈ frs l) → h.FunFrames base l' → h'.FunFrames base l' := by
    intro l'
    induction l' with
    | nil => intro _ _; trivial
    | cons env rest ih =>
      rintro hin ⟨hk, ⟨L, o, hf, hn, ho, hd⟩, hr⟩
      have hL : L ∈ frs l := hin L (by unfold frs; rw [List.filterMap_cons, hf]; exact List.mem_cons_self ..)
      obtain ⟨o', e', q⟩ := k L o hL ho hd
      exact ⟨hk, ⟨L, o', hf, hn, e', fun vs => q.data ▸ hd vs⟩, ih (fun a ha => hin a (by unfold frs; rw [List.filterMap_cons, hf]; exact List.mem_cons_of_mem _ ha)) hr⟩
  exact aux (fun _ ha => ha) F

theorem slotsOnly_eq {S : List Addr} {h h' : Heap} (x : Heap.SlotsOnly S h h') {b : Addr} {o : Obj} (e : h.get? b = some o) : (b ∉ S → h'.get? b = some o) ∧ ∃ o', h'.get? b = some o' ∧ SlotsEq o o' := by
  refine ⟨fun hb => (x.2.1 b hb).trans e, ?_⟩
  obtain ⟨sl, e2⟩ := x.2.2 b o e
  exact ⟨_, e2, sl, rfl⟩

/-- a new entry of the traceback is laid: what it leaves -/
theorem entry_laid {env fenv : Env} {outer : List Env} {L ea dx : Addr} {oe : Obj} {vs : Array Value} {head : Value} {hadNext : Bool} {es : Array DictEntry} {n : Nat} {Q : Unit → Shared → Prop}
    (hfr : A.frames = some (fenv :: outer)) (hf : fenv.frame = some L) (hen : env.frame = some L) (F : Frames base s.heap (fenv :: outer))
    (he : s.heap.get? ea = some oe) (hcl : oe.cls = .ref x.C) (hdi : oe.dict = some dx) (hd : oe.data = .fields vs) (hsz : 1 < vs.size) (h0e : h0.get? ea = none) (h0d : h0.get? dx = none)
    (hle : ∀ b o, h0.get? b = some o → ∃ o', s.heap.get? b = some o') (hdf : dx ∉ frs (fenv :: outer)) (hdx : s.heap.get? dx = some (dctObj es n)) (hk : RelKs x.ks (es.toList.map (·.key))) (hv : Scals P x.vs (es.toList.map (·.val)))
    (hQ : ∀ h', Up P h0 x (· = some (rawInt L)) (.ref ea) h' → AirStep (frs (fenv :: outer)) h0 s.heap h' → Frames base h' (fenv :: outer) → Q () { s with heap := h' }) :
    wpAny M A (do let a ← PySem.frameOf env; let pl ← entryPlaceOf L hadNext; let b ← EntryCells.newEntry head a .none (rawInt L) .none pl; setField (.ref ea) 1 b) Q E s := by
  rw [frameOf_same (hen.trans hf.symm)]
  refine wpAny_bind (wpAny_frameOf_fun hfr F hf fun h₁ hs₁ => ?_)
  refine wpAny_bind (wpAny_entryPlaceOf fun pl hpl => ?_)
  unfold EntryCells.newEntry newFields
  refine wpAny_bind (wpAny_newObj_type ?_ (hpl.sizeOk5 _ _ _ _ _))
  have sl : ∀ b o, s.heap.get? b = some o → (b ∉ frs (fenv :: outer) → h₁.get? b = some o) ∧ ∃ o', h₁.get? b = some o' ∧ SlotsEq o o' := fun b o e => slotsOnly_eq hs₁ e
  have hene : ea ∉ frs (fenv :: outer) := fun hm => by
    obtain ⟨_, o, ho, hnf⟩ := Heap.FunFrames.mem F hm
    rw [he] at ho; cases ho; exact hnf vs hd
  have he₁ : h₁.get? ea = some oe := (sl ea oe he).1 hene
  have hx₁ : h₁.get? dx = some (dctObj es n) := (sl dx _ hdx).1 hdf
  have hdxe : dx ≠ ea := by
    rintro rfl
    rw [hx₁] at he₁; cases he₁; cases hd
  have he₂ := Heap.get?_push_of_some (h := h₁) { cls := .type "traceback", dict := none, data := .fields ([head, .ref L, .none, rawInt L, .none] ++ (if pl.isEmpty then List.replicate 6 Value.none else pl)).toArray } he₁
  refine wpAny_setField he₂ hd hsz (hQ _ ?_ ?_ ?_)
  · have hTe : h₁.objs.size ≠ ea := Nat.ne_of_gt (Heap.lt_size he₁)
    have hd₃ := Obj.data_mapFields hd (·.setIfInBounds 1 (Value.ref h₁.objs.size))
    have he₃ := Heap.get?_update_self (Obj.mapFields (·.setIfInBounds 1 (Value.ref h₁.objs.size))) he₂ (Obj.isFreed_of_fields hd₃)
    have hT₃ := (Heap.get?_update_other (h₁.push { cls := .type "traceback", dict := none, data := .fields ([head, .ref L, .none, rawInt L, .none] ++ (if pl.isEmpty then List.replicate 6 Value.none else pl)).toArray })
      (Obj.mapFields (·.setIfInBounds 1 (Value.ref h₁.objs.size))) (Ne.symm hTe)).trans (Heap.get?_push_size h₁ rfl)
    have h0T : h0.get? h₁.objs.size = none := by
      cases hq : h0.get? h₁.objs.size with
      | none => rfl
      | some o =>
        obtain ⟨o', e'⟩ := hle _ _ hq
        obtain ⟨o'', e'', _⟩ := (sl _ _ e').2
        exact absurd (Heap.lt_size e'') (Nat.lt_irrefl _)
    refine ⟨ea, dx, _, _, es, n, rfl, h0e, he₃, (mapFields_cls ..).trans hcl, (mapFields_dict ..).trans hdi, hd₃, by simp [hsz], .inr ⟨h₁.objs.size, _, _, rawInt L, by simp [hsz], h0T, hTe, hT₃, rfl, ?_, rfl⟩, h0d, ?_, hk, hv⟩
    · first | (simp; done) | (rcases hpl with rfl | ⟨_, _, _, _, _, _, _, rfl⟩ <;> simp)
    · rw [Heap.get?_update_other _ _ (Ne.symm hdxe)]
      exact Heap.get?_push_of_some _ hx₁
  · refine ⟨fun b o e hs => ?_, fun b o e => ?_⟩
    · have nb : ea ≠ b := by rintro rfl; rw [h0e] at hs; cases hs
      refine ⟨fun hn => ?_, ?_⟩
      · rw [Heap.get?_update_other _ _ nb]
        exact Heap.get?_push_of_some _ ((sl b o e).1 hn)
      · obtain ⟨o', e', q⟩ := (sl b o e).2
        refine ⟨o', ?_, q⟩
        rw [Heap.get?_update_other _ _ nb]
        exact Heap.get?_push_of_some _ e'
    · obtain ⟨o', e', q⟩ := (sl b o e).2
      by_cases hb : b = ea
      · subst hb
        have hd₃ := Obj.data_mapFields hd (·.setIfInBounds 1 (Value.ref h₁.objs.size))
        exact ⟨_, Heap.get?_update_self (Obj.mapFields (·.setIfInBounds 1 (Value.ref h₁.objs.size))) he₂ (Obj.isFreed_of_fields hd₃)⟩
      · exact ⟨o', by rw [Heap.get?_update_other _ _ (Ne.symm hb)]; exact Heap.get?_push_of_some _ e'⟩
  · refine Frames.of' F fun b o hb e nf => ?_
    obtain ⟨o', e', q⟩ := (sl b o e).2
    refine ⟨o', ?_, q⟩
    rw [Heap.get?_update_other _ _ (by rintro rfl; exact hene hb)]
    exact Heap.get?_push_of_some _ e'

/-- a step on one field of the traceback at hand -/
theorem flight_set {fl : Value} {ea dx : Addr} {oe : Obj} {vs : Array Value} {T : Addr} {oT : Obj} {ts : Array Value} {f : Value} {es : Array DictEntry} {n : Nat} {l : List Env} {S : List Addr} {Q : Unit → Shared → Prop}
    (F : Frames base s.heap l) (he : s.heap.get? ea = some oe) (hcl : oe.cls = .ref x.C) (hdi : oe.dict = some dx) (hd : oe.data = .fields vs) (hsz : 1 < vs.size) (h0e : h0.get? ea = none) (h0d : h0.get? dx = none)
    (hdx : s.heap.get? dx = some (dctObj es n)) (hk : RelKs x.ks (es.toList.map (·.key))) (hv : Scals P x.vs (es.toList.map (·.val)))
    (h1 : vs[1]? = some (.ref T)) (h0T : h0.get? T = none) (hTe : T ≠ ea) (hT : s.heap.get? T = some oT) (hTd : oT.data = .fields ts) (h3 : ts[3]? = some f)
    (hQ : ∀ h', Up P h0 x (· = some fl) (.ref ea) h' → AirStep S h0 s.heap h' → Frames base h' l → (∀ oT', h'.get? T = some oT' → ∃ ts', oT'.data = .fields ts' ∧ ts'[3]? = some fl) → h'.get? ea = some oe → h'.get? dx = some (dctObj es n) → Q () { s with heap := h' }) :
    wpAny M A (setField (.ref T) 3 fl) Q E s := by
  have hs3 : 3 < ts.size := (Array.getElem?_eq_some_iff.mp h3).1
  have hd₃ := Obj.data_mapFields hTd (·.setIfInBounds 3 fl)
  have hT₃ := Heap.get?_update_self (Obj.mapFields (·.setIfInBounds 3 fl)) hT (Obj.isFreed_of_fields hd₃)
  have hdT : dx ≠ T := by rintro rfl; rw [hdx] at hT; cases hT; cases hTd
  have g3 : (ts.setIfInBounds 3 fl)[3]? = some fl := by simp [hs3]
  have ge : (s.heap.update T (Obj.mapFields (·.setIfInBounds 3 fl))).get? ea = some oe := (Heap.get?_update_other _ _ hTe).trans he
  have gd : (s.heap.update T (Obj.mapFields (·.setIfInBounds 3 fl))).get? dx = some (dctObj es n) := (Heap.get?_update_other _ _ (Ne.symm hdT)).trans hdx
  refine wpAny_setField hT hTd hs3 (hQ _ ⟨ea, dx, oe, vs, es, n, rfl, h0e, ge, hcl, hdi, hd, hsz, .inr ⟨T, _, _, fl, h1, h0T, hTe, hT₃, hd₃, g3, rfl⟩, h0d, gd, hk, hv⟩ ?_ ?_ ?_ ge gd)
  · refine ⟨fun b o e hs => ?_, fun b o e => ?_⟩
    · have z := (Heap.get?_update_other s.heap (Obj.mapFields (·.setIfInBounds 3 fl)) (show T ≠ b by rintro rfl; rw [h0T] at hs; cases hs)).trans e
      exact ⟨fun _ => z, o, z, .refl o⟩
    · by_cases hb : b = T
      · subst hb; exact ⟨_, hT₃⟩
      · exact ⟨o, by rw [Heap.get?_update_other _ _ (Ne.symm hb)]; exact e⟩
  · refine Frames.of' F fun b o _ e nf => ?_
    by_cases hb : b = T
    · subst hb
      rw [hT] at e; cases e
      exact absurd hTd (nf ts)
    · exact ⟨o, by rw [Heap.get?_update_other _ _ (Ne.symm hb)]; exact e, .refl o⟩
  · intro oT' e
    rw [hT₃] at e; cases e
    exact ⟨_, hd₃, g3⟩

/-- the air's law on «noteFrame»: it comes to rest at this frame -/
theorem up_note {env fenv : Env} {outer : List Env} {L : Addr} {Q : Unit → Shared → Prop}
    (hfr : A.frames = some (fenv :: outer)) (hf : fenv.frame = some L) (hen : env.frame = some L) (F : Frames base s.heap (fenv :: outer))
    (hle : Live h0 s.heap) (hfs : ∀ a ∈ frs (fenv :: outer), ∃ o, h0.get? a = some o) (U : Up P h0 x q e s.heap)
    (hQ : ∀ h', Up P h0 x (· = some (rawInt L)) e h' → AirStep (frs (fenv :: outer)) h0 s.heap h' → Frames base h' (fenv :: outer) → Q () { s with heap := h' }) :
    wpAny M A (noteFrame e env) Q E s := by
  obtain ⟨ea, dx, oe, vs, es, n, rfl, h0e, he, hcl, hdi, hd, hsz, htb, h0d, hdx, hk, hv⟩ := U
  have hdf : dx ∉ frs (fenv :: outer) := fun hm => by
    obtain ⟨o, ho⟩ := hfs dx hm
    rw [h0d] at ho; cases ho
  unfold noteFrame
  simp only [hen]
  rcases htb with ⟨h1, hqn⟩ | ⟨T, oT, ts, f, h1, h0T, hTe, hT, hTd, h3, hq⟩
  · refine wpAny_bind (wpAny_field he hd h1 ?_)
    rw [if_neg (by decide)]
    exact entry_laid hfr hf hen F he hcl hdi hd hsz h0e h0d hle hdf hdx hk hv hQ
  · refine wpAny_bind (wpAny_field he hd h1 ?_)
    rw [if_pos (show (Value.ref T != Value.none) = true from by simp)]
    refine wpAny_bind (wpAny_field hT hTd h3 ?_)
    by_cases hfl : f = rawInt L
    · subst hfl
      rw [if_pos (by simp)]
      exact wpAny_pure (hQ s.heap ⟨ea, dx, oe, vs, es, n, rfl, h0e, he, hcl, hdi, hd, hsz, .inr ⟨T, oT, ts, _, h1, h0T, hTe, hT, hTd, h3, rfl⟩, h0d, hdx, hk, hv⟩ (.refl ..) F)
    · rw [if_neg (by simpa using hfl)]
      refine wpAny_bind (flight_set (fl := .none) (S := frs (fenv :: outer)) F he hcl hdi hd hsz h0e h0d hdx hk hv h1 h0T hTe hT hTd h3 fun h' _ st F' _ he' hdx' => ?_)
      refine entry_laid (s := { s with heap := h' }) hfr hf hen F' he' hcl hdi hd hsz h0e h0d (fun b o e => ?_) hdf hdx' hk hv fun h'' U'' st'' F'' => hQ h'' U'' (st.trans st'') F''
      obtain ⟨o', e'⟩ := hle b o e
      exact st.2 b o' e'

theorem up_flight {fl : Option Addr} {l : List Env} {S : List Addr} {Q : Unit → Shared → Prop} (F : Frames base s.heap l) (U : Up P h0 x q e s.heap) (hU : ¬ q none)
    (hQ : ∀ h', Up P h0 x (· = some (fl.elim .none fun f => rawInt f)) e h' → AirStep S h0 s.heap h' → Frames base h' l → Q () { s with heap := h' }) : wpAny M A (setFlight e fl) Q E s := by
  obtain ⟨ea, dx, oe, vs, es, n, rfl, h0e, he, hcl, hdi, hd, hsz, htb, h0d, hdx, hk, hv⟩ := U
  rcases htb with ⟨h1, hqn⟩ | ⟨T, oT, ts, f, h1, h0T, hTe, hT, hTd, h3, hq⟩
  · exact absurd hqn hU
  · unfold setFlight
    refine wpAny_bind (wpAny_field he hd h1 ?_)
    rw [if_pos (show (Value.ref T != Value.none) = true from by simp)]
    exact flight_set F he hcl hdi hd hsz h0e h0d hdx hk hv h1 h0T hTe hT hTd h3 fun h' U' st F' _ _ _ => hQ h' U' st F'
end
end Mine
end

section
namespace Mine

structure Gd where
  prog : Program
  w : World
  base : Heap
  p : Program
  loose : List Str
  mg : Str → Option Value
  mb : Str → Option Value
  cls : List (Addr × List Str)
abbrev Gd.M (G : Gd) : Model := model G.prog G.w
abbrev Gd.P (G : Gd) : Params := G.w.params
/-- a class of the text's top, plain as to these names of its instances -/
noncomputable def clsOk (K : Frag) (C : Addr) (own : List Str) : Bool :=
  hasDictIn K C && plainGet K C "" && plainOver K C && (findIn K (.ref C) "__setattr__" == some (some (.builtin "object.__setattr__")))
    && own.all fun n => (match findIn K (.ref C) n with | some attr => noGet K attr | none => false) && takerIn K C n == some none
noncomputable def ClsAt (G : Gd) (C : Addr) (own : List Str) : Prop := ∃ K : Frag, K.In G.base ∧ clsOk K C own = true
structure Gd.Ok (G : Gd) : Prop where
  top : TopRead G.p G.loose G.mg G.mb G.base
  cls : ∀ C own, G.cls.lookup C = some own → ClsAt G C own

structure Md where
  n : Nat
  hd : Option Value
  sc : List (Str × NameKind)

inductive LV where
  | val (v : V)
  | cell (c : Addr)
abbrev Loc := List (Str × LV)

inductive FrS (G : Gd) (A : Around) (env : Env) (σ : Store) (h : Heap) : Prop
  | mk (fenv : Env) (outer : List Env) (L : Addr) (h1 : A.frames = some (fenv :: outer)) (h2 : fenv.frame = some L) (h3 : env.frame = some L) (h4 : Frames G.base h (fenv :: outer)) (h5 : ∀ a ∈ frs (fenv :: outer), σ a = some .mark)
structure Frm (G : Gd) (md : Md) (A : Around) (env : Env) (σ : Store) (h : Heap) : Prop where
  ok : G.Ok
  kind : env.scope.kind = .function
  names : env.scope.names = md.sc
  glob : env.globals = mainGlobals
  blt : env.builtins = builtinsNs
  hand : A.handled = md.hd
  depth : A.depth + md.n ≤ 900
  units : A.units + 20 * md.n + 200 ≤ cLine
  fr : FrS G A env σ h
  stays : G.base.StaysIn h
  bdom : ∀ b o, G.base.get? b = some o → σ b = none
  off : σ env.locals = some .mark
  newL : G.base.get? env.locals = none

noncomputable def LocAt (P : Params) (σ : Store) (h : Heap) (env : Env) (m : Str → Option Value) (x : Str) : LV → Prop
  | .val v => env.kindOf x = some .local ∧ ∃ w, m x = some w ∧ RelV P σ h v w
  | .cell c => (env.kindOf x = some .cell ∨ env.kindOf x = some .free) ∧ env.cells.lookup x = some c ∧ ∃ v, σ c = some (.cell v)
noncomputable def LocRel (P : Params) (σ : Store) (h : Heap) (env : Env) (m : Str → Option Value) (loc : Loc) : Prop := ∀ x lv, loc.lookup x = some lv → LocAt P σ h env m x lv

structure St (G : Gd) (md : Md) (A : Around) (env : Env) (m : Str → Option Value) (loc : Loc) (σ : Store) (s : Shared) : Prop where
  frm : Frm G md A env σ s.heap
  ns : s.heap.Ns env.locals m
  sim : Sim G.P σ s.heap
  loc : LocRel G.P σ s.heap env m loc

theorem ns_slots {h h' : Heap} {L : Addr} {m : Str → Option Value} (x : h.Ns L m) (k : ∀ o, h.get? L = some o → ∃ o', h'.get? L = some o' ∧ SlotsEq o o') : h'.Ns L m := by
  obtain ⟨o, es, ep, ho, hd, r⟩ := x
  obtain ⟨o', e', q⟩ := k o ho
  exact ⟨o', es, ep, e', q.data.trans hd, r⟩

section
variable {G : Gd} {md : Md} {A : Around} {env : Env} {m : Str → Option Value} {loc : Loc} {σ σ' : Store} {s s' : Shared}

theorem Frames.all {base h : Heap} {l : List Env} (F : Frames base h l) : ∀ a ∈ frs l, ∃ o, h.get? a = some o := fun a ha => let ⟨_, o, ho, _⟩ := Heap.FunFrames.mem F ha; ⟨o, ho⟩

theorem Frm.after (F : Frm G md A env σ s.heap) (hL : ∃ o, s.heap.get? env.locals = some o) (a : After σ σ' s s') : Frm G md A env σ' s'.heap := by
  obtain ⟨h1, h2, hn, h3, h4, h5, h6, h7, ⟨fenv, outer, L, f1, f2, f3, f4, f5⟩, h9, h10, h11, h12⟩ := F
  refine ⟨h1, h2, hn, h3, h4, h5, h6, h7, ⟨fenv, outer, L, f1, f2, f3, ?_, fun b hb => ?_⟩, ?_, ?_, ?_, h12⟩
  · exact Frames.of' f4 fun b o hb e _ => (a.keep b o e).2 (f5 b hb)
  · obtain ⟨o, e⟩ := f4.all b hb
    exact (a.dom b o e).2.1 (f5 b hb)
  · exact fun b o e => (a.keep b o (h9 b o e)).1 (h10 b o e)
  · exact fun b o e => (a.dom b o (h9 b o e)).1 (h10 b o e)
  · obtain ⟨o, e⟩ := hL
    exact (a.dom _ o e).2.1 h11

theorem LocRel.after (h : LocRel G.P σ s.heap env m loc) (sim : Sim G.P σ s.heap) (a : After σ σ' s s') : LocRel G.P σ' s'.heap env m loc := fun x lv e => by
  have z := h x lv e
  cases lv with
  | val v => obtain ⟨k, w, hw, r⟩ := z; exact ⟨k, w, hw, r.step a.keep a.dom⟩
  | cell c =>
    obtain ⟨k, hc, v, hv⟩ := z
    obtain ⟨o, ho, _⟩ := sim c _ hv
    exact ⟨k, hc, (a.dom c o ho).2.2 v hv⟩

theorem St.after (S : St G md A env m loc σ s) (a : After σ σ' s s') (sim : Sim G.P σ' s'.heap) : St G md A env m loc σ' s' :=
  ⟨S.frm.after (let ⟨o, _, _, e, _⟩ := S.ns; ⟨o, e⟩) a, ns_slots S.ns fun o e => (a.keep _ o e).2 S.frm.off, sim, S.loc.after S.sim a⟩
theorem St.tok (S : St G md A env m loc σ s) (t : Nat) : St G md A env m loc σ { s with toks := t } := ⟨S.frm, S.ns, S.sim, S.loc⟩

/-- the end of an expression -/
structure EB (G : Gd) (σ : Store) (r : V) (σ' : Store) (s : Shared) (v : Value) (s' : Shared) : Prop where
  rel : RelV G.P σ' s'.heap r v
  af : After σ σ' s s'
  sim : Sim G.P σ' s'.heap
inductive EQ (G : Gd) (σ : Store) (Q : V → Store → Prop) (s : Shared) (v : Value) (s' : Shared) : Prop
  | mk (r : V) (σ' : Store) (q : Q r σ') (b : EB G σ r σ' s v s')
/-- an exception under way -/
noncomputable def Triv : Option Value → Prop := fun _ => True
structure XB (G : Gd) (σ : Store) (x : Exn) (s : Shared) (e : Value) (s' : Shared) : Prop where
  up : Up G.P s.heap x Triv e s'.heap
  sh : ∃ h' tk, s' = { s with heap := h', toks := tk }
  kp : Keep σ s.heap s'.heap
  lv : Live s.heap s'.heap
inductive EX (G : Gd) (σ : Store) (X : Exn → Prop) (s : Shared) (e : Value) (s' : Shared) : Prop
  | mk (x : Exn) (h : X x) (b : XB G σ x s e s')

theorem EQ.then {σ₁ : Store} {s₁ : Shared} {Q : V → Store → Prop} {v : Value} (a : After σ σ₁ s s₁) (q : EQ G σ₁ Q s₁ v s') : EQ G σ Q s v s' := by
  obtain ⟨r, σ', h1, h2, h3, h4⟩ := q
  exact ⟨r, σ', h1, h2, a.trans h3, h4⟩
theorem Up.le {P : Params} {h0 h1 h : Heap} {x : Exn} {q : Option Value → Prop} {e : Value} (u : Up P h1 x q e h) (l : Live h0 h1) : Up P h0 x q e h := by
  have n : ∀ b, h1.get? b = none → h0.get? b = none := fun b hb => by
    cases hq : h0.get? b with
    | none => rfl
    | some o => obtain ⟨o', e'⟩ := l b o hq; rw [hb] at e'; cases e'
  obtain ⟨ea, dx, oe, vs, es, k, rfl, h0e, he, hcl, hdi, hd, hsz, htb, h0d, hdx, hk, hv⟩ := u
  refine ⟨ea, dx, oe, vs, es, k, rfl, n _ h0e, he, hcl, hdi, hd, hsz, ?_, n _ h0d, hdx, hk, hv⟩
  rcases htb with z | ⟨T, oT, ts, f, h1, h0T, z1, z2, z3, z4, z5⟩
  · exact .inl z
  · exact .inr ⟨T, oT, ts, f, h1, n _ h0T, z1, z2, z3, z4, z5⟩
theorem EX.then {σ₁ : Store} {s₁ : Shared} {X : Exn → Prop} {v : Value} (a : After σ σ₁ s s₁) (q : EX G σ₁ X s₁ v s') : EX G σ X s v s' := by
  obtain ⟨x, h1, h2, ⟨h', t', rfl⟩, h4, h5⟩ := q
  obtain ⟨⟨h, t, rfl⟩, k, d, l⟩ := a
  exact ⟨x, h1, h2.le l, ⟨h', t', rfl⟩, k.trans d h4, l.trans h5⟩
theorem EX.mono {X X' : Exn → Prop} {v : Value} (q : EX G σ X s v s') (h : ∀ x, X x → X' x) : EX G σ X' s v s' := by
  obtain ⟨x, h1, r⟩ := q
  exact ⟨x, h x h1, r⟩

/-- what an expression yields -/
noncomputable def EvW (G : Gd) (md : Md) (e : Expr) (loc : Loc) (σ : Store) (Q : V → Store → Prop) (X : Exn → Prop) : Prop :=
  ∀ A env m s, St G md A env m loc σ s → wpAny G.M A (eval e env) (EQ G σ Q s) (EX G σ X s) s
/-- what a test yields -/
inductive TQ (G : Gd) (σ : Store) (Q : Bool → Store → Prop) (s : Shared) (b : Bool) (s' : Shared) : Prop
  | mk (σ' : Store) (q : Q b σ') (af : After σ σ' s s') (sim : Sim G.P σ' s'.heap)
noncomputable def TsW (G : Gd) (md : Md) (e : Expr) (loc : Loc) (σ : Store) (Q : Bool → Store → Prop) (X : Exn → Prop) : Prop :=
  ∀ A env m s, St G md A env m loc σ s → wpAny G.M A (isTrue e env (eval e env)) (TQ G σ Q s) (EX G σ X s) s

theorem EvW.mono {e : Expr} {Q Q' : V → Store → Prop} {X X' : Exn → Prop} (h : EvW G md e loc σ Q X) (hQ : ∀ v σ', Q v σ' → Q' v σ') (hX : ∀ x, X x → X' x) : EvW G md e loc σ Q' X' :=
  fun A env m s S => wpAny_mono (h A env m s S) (fun _ _ ⟨r, σ', a, b⟩ => ⟨r, σ', hQ _ _ a, b⟩) fun _ _ q => q.mono hX

/-- a value at once -/
theorem EQ.now {Q : V → Store → Prop} {r : V} {v : Value} (sim : Sim G.P σ s.heap) (q : Q r σ) (h : RelV G.P σ s.heap r v) (t : Nat) : EQ G σ Q s v { s with toks := t } :=
  ⟨r, σ, q, h, .tok .., sim⟩

theorem ev_int {i : Int} {k : Nat} {pos : Pos} {Q : V → Store → Prop} {X : Exn → Prop} (h : Q (.int i) σ) : EvW G md (.Constant (.int i) k pos) loc σ Q X :=
  fun _ _ _ s S => wpAny_Constant_int (.now S.sim h ⟨_, rfl⟩ _)
theorem ev_str {x : Str} {k : Nat} {pos : Pos} {Q : V → Store → Prop} {X : Exn → Prop} (h : Q (.str x) σ) (hf : Fit x) : EvW G md (.Constant (.str x) k pos) loc σ Q X :=
  fun _ _ _ s S => wpAny_Constant_str (.now S.sim h ⟨hf, _, rfl⟩ _)
theorem ev_bool {b : Bool} {k : Nat} {pos : Pos} {Q : V → Store → Prop} {X : Exn → Prop} (h : Q (.bool b) σ) : EvW G md (.Constant (.bool b) k pos) loc σ Q X :=
  fun _ _ _ s S => wpAny_Constant_bool (.now S.sim h rfl s.toks)
theorem ev_none {k : Nat} {pos : Pos} {Q : V → Store → Prop} {X : Exn → Prop} (h : Q .none σ) : EvW G md (.Constant .none k pos) loc σ Q X :=
  fun _ _ _ s S => wpAny_Constant_none (.now S.sim h rfl s.toks)
theorem ev_local {x : Str} {pos : Pos} {v : V} {Q : V → Store → Prop} {X : Exn → Prop} (hx : loc.lookup x = some (.val v)) (h : Q v σ) (hd : (x == ("__debug__" : Str)) = false := by decide) :
    EvW G md (.Name x pos) loc σ Q X := fun A env m s S => by
  obtain ⟨k, w, hw, r⟩ := S.loc x _ hx
  exact wpAny_Name (wpAny_loadName_local S.frm.kind k S.ns hw (.now S.sim h r s.toks)) hd
theorem ev_cell {x : Str} {pos : Pos} {c : Addr} {v : V} {Q : V → Store → Prop} {X : Exn → Prop} (hx : loc.lookup x = some (.cell c)) (hc : σ c = some (.cell v)) (h : Q v σ) (hv : v ≠ .bi "" := by nofun) (hd : (x == ("__debug__" : Str)) = false := by decide) (hn : (x == ("__classdict__" : Str)) = false := by decide) :
    EvW G md (.Name x pos) loc σ Q X := fun A env m s S => by
  obtain ⟨k, hl, _⟩ := S.loc x _ hx
  obtain ⟨o, ho, cc⟩ := S.sim c _ hc
  rcases cc with ⟨e, _⟩ | ⟨w, hw, r⟩
  · exact absurd e hv
  rcases k with k | k
  · exact wpAny_Name (wpAny_loadName_cell S.frm.kind k hl ⟨_, ho, hw⟩ (.now S.sim h r s.toks)) hd
  · exact wpAny_Name (wpAny_loadName_free S.frm.kind k hl ⟨_, ho, hw⟩ (.now S.sim h r s.toks) hn) hd
/-- a name of the text's top -/
noncomputable def Glob (G : Gd) (x : Str) (v : V) : Prop := ∃ w, G.mg x = some w ∧ ∀ σ h, G.base.StaysIn h → (∀ b o, G.base.get? b = some o → σ b = none) → RelV G.P σ h v w
theorem ev_global {x : Str} {pos : Pos} {v : V} {Q : V → Store → Prop} {X : Exn → Prop} (g : Glob G x v) (hk : md.sc.lookup x = some .globalImplicit) (h : Q v σ) (hd : (x == ("__debug__" : Str)) = false := by decide) :
    EvW G md (.Name x pos) loc σ Q X := fun A env m s S => by
  obtain ⟨w, hw, r⟩ := g
  refine PySem.Calls.Name_function_global S.frm.kind (by show env.scope.names.lookup x = _; rw [S.frm.names]; exact hk) (PySem.Calls.loadGlobal_global (mg := G.mg) ?_ hw (.now S.sim h (r _ _ S.frm.stays S.frm.bdom) s.toks)) hd
  rw [S.frm.glob]
  exact S.frm.ok.top.g.keeps S.frm.stays
/-- a name of the built-ins -/
noncomputable def Bltn (G : Gd) (x : Str) (v : V) : Prop := G.mg x = none ∧ x ≠ "__name__" ∧ ∃ w, bootBuiltins x = some w ∧ ((∃ n, v = .bi n ∧ w = .builtin n) ∨ ∃ n, v = .ty n ∧ w = .type n)
theorem ev_builtin {x : Str} {pos : Pos} {v : V} {Q : V → Store → Prop} {X : Exn → Prop} (g : Bltn G x v) (hk : md.sc.lookup x = some .globalImplicit) (h : Q v σ) (hd : (x == ("__debug__" : Str)) = false := by decide) :
    EvW G md (.Name x pos) loc σ Q X := fun A env m s S => by
  obtain ⟨h0, hn, w, hw, r⟩ := g
  refine PySem.Calls.Name_function_global S.frm.kind (by show env.scope.names.lookup x = _; rw [S.frm.names]; exact hk) (PySem.Calls.loadGlobal_builtin (mg := G.mg) (mb := G.mb) (v := w) ?_ h0 ?_ ((S.frm.ok.top.builtins x hn).trans hw) (.now S.sim h ?_ s.toks)) hd
  · rw [S.frm.glob]
    exact S.frm.ok.top.g.keeps S.frm.stays
  · rw [S.frm.blt]
    exact S.frm.ok.top.b.keeps S.frm.stays
  · rcases r with ⟨n, rfl, rfl⟩ | ⟨n, rfl, rfl⟩ <;> rfl
end
end Mine
end

section
namespace Mine

inductive Flw where
  | next
  | brk
  | cont
  | ret (v : V)
noncomputable def RelF (P : Params) (σ : Store) (h : Heap) : Flw → Flow → Prop
  | .next, f => f = .next
  | .brk, f => f = .brk
  | .cont, f => f = .cont
  | .ret v, f => ∃ w, f = .ret w ∧ RelV P σ h v w

structure SB (G : Gd) (env : Env) (loc' : Loc) (σ' : Store) (m' : Str → Option Value) (s' : Shared) : Prop where
  ns : s'.heap.Ns env.locals m'
  sim : Sim G.P σ' s'.heap
  loc : LocRel G.P σ' s'.heap env m' loc'
inductive SQ (G : Gd) (env : Env) (σ : Store) (Q : Flw → Loc → Store → Prop) (s : Shared) (f : Flow) (s' : Shared) : Prop
  | mk (fl : Flw) (loc' : Loc) (σ' : Store) (m' : Str → Option Value) (q : Q fl loc' σ') (rf : RelF G.P σ' s'.heap fl f) (af : AfterL env.locals σ σ' s s') (b : SB G env loc' σ' m' s')
structure SXB (G : Gd) (env : Env) (σ : Store) (x : Exn) (s : Shared) (e : Value) (s' : Shared) : Prop where
  up : Up G.P s.heap x Triv e s'.heap
  sh : ∃ h' tk, s' = { s with heap := h', toks := tk }
  kp : KeepL env.locals σ s.heap s'.heap
  lv : Live s.heap s'.heap
  ns : ∃ m', s'.heap.Ns env.locals m'
inductive SX (G : Gd) (env : Env) (σ : Store) (X : Exn → Prop) (s : Shared) (e : Value) (s' : Shared) : Prop
  | mk (x : Exn) (h : X x) (b : SXB G env σ x s e s')

noncomputable def Ex1 (G : Gd) (md : Md) (st : Stmt) (loc : Loc) (σ : Store) (Q : Flw → Loc → Store → Prop) (X : Exn → Prop) : Prop :=
  ∀ A env m s, St G md A env m loc σ s → wpAny G.M A (exec st env) (SQ G env σ Q s) (SX G env σ X s) s
noncomputable def ExW (G : Gd) (md : Md) (ss : List Stmt) (loc : Loc) (σ : Store) (Q : Flw → Loc → Store → Prop) (X : Exn → Prop) : Prop :=
  ∀ A env m s, St G md A env m loc σ s → wpAny G.M A (execs ss env) (SQ G env σ Q s) (SX G env σ X s) s

section
variable {G : Gd} {md : Md} {A : Around} {env : Env} {m : Str → Option Value} {loc : Loc} {σ σ' : Store} {s s' : Shared} {Q : Flw → Loc → Store → Prop} {X : Exn → Prop}

theorem SQ.then {σ₁ : Store} {s₁ : Shared} {f : Flow} (a : AfterL env.locals σ σ₁ s s₁) (q : SQ G env σ₁ Q s₁ f s') : SQ G env σ Q s f s' := by
  obtain ⟨fl, loc', σ', m', h1, h2, h3, h4⟩ := q
  exact ⟨fl, loc', σ', m', h1, h2, a.trans h3, h4⟩
theorem SX.then {σ₁ : Store} {s₁ : Shared} {e : Value} (a : AfterL env.locals σ σ₁ s s₁) (q : SX G env σ₁ X s₁ e s') : SX G env σ X s e s' := by
  obtain ⟨x, h1, h2, ⟨h', t', rfl⟩, h4, h5, h6⟩ := q
  obtain ⟨⟨h, t, rfl⟩, k, d, l⟩ := a
  exact ⟨x, h1, h2.le l, ⟨h', t', rfl⟩, k.trans d h4, l.trans h5, h6⟩
theorem EX.sx {e : Value} (S : St G md A env m loc σ s) (q : EX G σ X s e s') : SX G env σ X s e s' := by
  obtain ⟨x, h1, h2, h3, h4, h5⟩ := q
  exact ⟨x, h1, h2, h3, h4.l _, h5, m, ns_slots S.ns fun o e => (h4 _ o e).2 S.frm.off⟩
/-- behind an expression the frame is as it was -/
theorem St.ev (S : St G md A env m loc σ s) {Qv : V → Store → Prop} {v : Value} (q : EQ G σ Qv s v s') : ∃ r σ', Qv r σ' ∧ RelV G.P σ' s'.heap r v ∧ After σ σ' s s' ∧ St G md A env m loc σ' s' := by
  obtain ⟨r, σ', h1, h2, h3, h4⟩ := q
  exact ⟨r, σ', h1, h2, h3, S.after h3 h4⟩

theorem frm_afterL (F : Frm G md A env σ s.heap) (hL : ∃ o, s.heap.get? env.locals = some o) (a : AfterL env.locals σ σ' s s') (hn : ∃ m', s'.heap.Ns env.locals m') : Frm G md A env σ' s'.heap := by
  obtain ⟨h1, h2, hn', h3, h4, h5, h6, h7, ⟨fenv, outer, L, f1, f2, f3, f4, f5⟩, h9, h10, h11, h12⟩ := F
  refine ⟨h1, h2, hn', h3, h4, h5, h6, h7, ⟨fenv, outer, L, f1, f2, f3, ?_, fun b hb => ?_⟩, ?_, ?_, ?_, h12⟩
  · have aux : ∀ {l : List Env}, (∀ a ∈ frs l, σ a = some .mark) → s.heap.FunFrames G.base l → s'.heap.FunFrames G.base l := by
      intro l
      induction l with
      | nil => intro _ _; trivial
      | cons e1 rest ih =>
        rintro hm ⟨hk, ⟨L1, o, hf, hnn, ho, hd⟩, hr⟩
        have hm1 : σ L1 = some .mark := hm L1 (by unfold frs; rw [List.filterMap_cons, hf]; exact List.mem_cons_self ..)
        refine ⟨hk, ?_, ih (fun a ha => hm a (by unfold frs; rw [List.filterMap_cons, hf]; exact List.mem_cons_of_mem _ ha)) hr⟩
        by_cases hl : L1 = env.locals
        · subst hl
          obtain ⟨m', o', es, ep, ho', hd', _⟩ := hn
          exact ⟨_, o', hf, hnn, ho', fun vs q => by rw [hd'] at q; cases q⟩
        · obtain ⟨o', e', q⟩ := (a.keep L1 o ho).2 hm1 hl
          exact ⟨L1, o', hf, hnn, e', fun vs => q.data ▸ hd vs⟩
    exact aux f5 f4
  · obtain ⟨o, e⟩ := Frames.all f4 b hb
    exact (a.dom b o e).2.1 (f5 b hb)
  · exact fun b o e => (a.keep b o (h9 b o e)).1 (h10 b o e)
  · exact fun b o e => (a.dom b o (h9 b o e)).1 (h10 b o e)
  · obtain ⟨o, e⟩ := hL
    exact (a.dom _ o e).2.1 h11
theorem St.sq (S : St G md A env m loc σ s) {f : Flow} (q : SQ G env σ Q s f s') : ∃ fl loc' σ' m', Q fl loc' σ' ∧ RelF G.P σ' s'.heap fl f ∧ AfterL env.locals σ σ' s s' ∧ St G md A env m' loc' σ' s' := by
  obtain ⟨fl, loc', σ', m', h1, h2, h3, h4, h5, h6⟩ := q
  exact ⟨fl, loc', σ', m', h1, h2, h3, frm_afterL S.frm (let ⟨o, _, _, e, _⟩ := S.ns; ⟨o, e⟩) h3 ⟨m', h4⟩, h4, h5, h6⟩

/-- continuations by name -/
abbrev ConsQ (G : Gd) (md : Md) (rest : List Stmt) (Q : Flw → Loc → Store → Prop) (X : Exn → Prop) : Flw → Loc → Store → Prop := fun fl loc' σ' => match fl with | .next => ExW G md rest loc' σ' Q X | f => Q f loc' σ'
abbrev IfQ (G : Gd) (md : Md) (body orelse : List Stmt) (loc : Loc) (Q : Flw → Loc → Store → Prop) (X : Exn → Prop) : Bool → Store → Prop := fun b σ' => if b = true then ExW G md body loc σ' Q X else ExW G md orelse loc σ' Q X
abbrev AsgQ (x : Str) (loc : Loc) (Q : Flw → Loc → Store → Prop) : V → Store → Prop := fun v σ' => Q .next ((x, .val v) :: loc) σ'
abbrev NxtQ (loc : Loc) (Q : Flw → Loc → Store → Prop) : V → Store → Prop := fun _ σ' => Q .next loc σ'
abbrev RetQ (loc : Loc) (Q : Flw → Loc → Store → Prop) : V → Store → Prop := fun v σ' => Q (.ret v) loc σ'
theorem ifP {c : Prop} [Decidable c] {p q : Prop} (h : c) (x : p) : if c then p else q := by rw [if_pos h]; exact x
theorem ifN {c : Prop} [Decidable c] {p q : Prop} (h : ¬ c) (x : q) : if c then p else q := by rw [if_neg h]; exact x
theorem ex_nil (h : Q .next loc σ) : ExW G md [] loc σ Q X := fun A env m s S =>
  wpAny_execs_nil ⟨.next, loc, σ, m, h, rfl, .refl .., S.ns, S.sim, S.loc⟩
theorem ex_cons {st : Stmt} {rest : List Stmt} (h : Ex1 G md st loc σ (ConsQ G md rest Q X) X) : ExW G md (st :: rest) loc σ Q X := fun A env m s S => by
  refine wpAny_execs_cons (wpAny_mono (h A env m s S) (fun f s' q => ?_) fun _ _ e => e)
  obtain ⟨fl, loc', σ', m', h1, h2, h3, S'⟩ := S.sq q
  cases fl with
  | next => cases h2; exact wpAny_mono (h1 A env m' s' S') (fun _ _ z => z.then h3) fun _ _ z => z.then h3
  | brk => cases h2; exact ⟨.brk, loc', σ', m', h1, rfl, h3, S'.ns, S'.sim, S'.loc⟩
  | cont => cases h2; exact ⟨.cont, loc', σ', m', h1, rfl, h3, S'.ns, S'.sim, S'.loc⟩
  | ret v => obtain ⟨w, rfl, r⟩ := h2; exact ⟨.ret v, loc', σ', m', h1, ⟨w, rfl, r⟩, h3, S'.ns, S'.sim, S'.loc⟩

theorem ex_return {e : Expr} {pos : Pos} (h : EvW G md e loc σ (RetQ loc Q) X) : Ex1 G md (.Return (some e) pos) loc σ Q X := fun A env m s S =>
  wpAny_Return_some (wpAny_mono (h A env m s S) (fun v s' q => by
    obtain ⟨r, σ', h1, h2, h3, S'⟩ := S.ev q
    exact ⟨.ret r, loc, σ', m, h1, ⟨v, rfl, h2⟩, h3.l _, S'.ns, S'.sim, S'.loc⟩) fun _ _ q => q.sx S)
theorem ex_return_none {pos : Pos} (h : Q (.ret .none) loc σ) : Ex1 G md (.Return none pos) loc σ Q X := fun A env m s S =>
  wpAny_Return_none ⟨.ret .none, loc, σ, m, h, ⟨.none, rfl, rfl⟩, .refl .., S.ns, S.sim, S.loc⟩
theorem ex_break {pos : Pos} (h : Q .brk loc σ) : Ex1 G md (.Break pos) loc σ Q X := fun A env m s S =>
  wpAny_bind (wpAny_standAt (wpAny_pure ⟨.brk, loc, σ, m, h, rfl, .refl .., S.ns, S.sim, S.loc⟩))
theorem ex_if {test : Expr} {body orelse : List Stmt} {pos : Pos} (h : TsW G md test loc σ (IfQ G md body orelse loc Q X) X) : Ex1 G md (.If test body orelse pos) loc σ Q X := fun A env m s S => by
  refine wpAny_If (wpAny_mono (h A env m s S) (fun b s' q => ?_) fun _ _ q => q.sx S)
  obtain ⟨σ', h1, h2, h3⟩ := q
  have S' := S.after h2 h3
  cases b
  · exact wpAny_mono (h1 A env m s' S') (fun _ _ z => z.then (h2.l _)) fun _ _ z => z.then (h2.l _)
  · exact wpAny_mono (h1 A env m s' S') (fun _ _ z => z.then (h2.l _)) fun _ _ z => z.then (h2.l _)

/-- a local name is bound -/
theorem bind_local {x : Str} {r : V} {v : Value} {Qu : Unit → Shared → Prop} {E : Value → Shared → Prop} (S : St G md A env m loc σ s) (hx : md.sc.lookup x = some .local) (hr : RelV G.P σ s.heap r v)
    (h : ∀ s', St G md A env (fun y => if y = x then some v else m y) ((x, .val r) :: loc) σ s' → AfterL env.locals σ σ s s' → Qu () s') : wpAny G.M A (storeName env x v) Qu E s := by
  have hk : env.kindOf x = some .local := by show env.scope.names.lookup x = _; rw [S.frm.names]; exact hx
  refine wpAny_storeName_local hk S.ns (fun h' hn hs => ?_) (by rw [S.frm.kind]; rfl)
  have hm := S.frm.off
  have aft : AfterL env.locals σ σ s { s with heap := h', toks := s.toks + 1 } := by
    have ne : ∀ b, σ b = none → b ≠ env.locals := fun b hb q => by rw [q, hm] at hb; cases hb
    refine ⟨⟨_, _, rfl⟩, fun b o e => ⟨fun z => (hs.2 b (ne b z)).trans e, fun z n => ⟨o, (hs.2 b n).trans e, .refl o⟩⟩, Dom.refl σ s.heap, fun b o e => ?_⟩
    by_cases hb : b = env.locals
    · subst hb; obtain ⟨o', _, _, e', _⟩ := hn; exact ⟨o', e'⟩
    · exact ⟨o, (hs.2 b hb).trans e⟩
  have keepR : ∀ b o, s.heap.get? b = some o → σ b = none → h'.get? b = some o ∧ σ b = none := fun b o e z => ⟨(aft.keep b o e).1 z, z⟩
  have sim' : Sim G.P σ h' := fun a mo e => by
    obtain ⟨o, ho, c⟩ := S.sim a mo e
    by_cases ha : a = env.locals
    · subst ha
      rw [hm] at e; cases e
      obtain ⟨o', _, _, e', _⟩ := hn
      exact ⟨o', e', trivial⟩
    · exact ⟨o, (hs.2 a ha).trans ho, c.mono keepR⟩
  refine h _ ⟨frm_afterL S.frm (let ⟨o, _, _, e, _⟩ := S.ns; ⟨o, e⟩) aft ⟨_, hn⟩, hn, sim', fun y lv e => ?_⟩ aft
  rw [List.lookup_cons] at e
  by_cases hy : y = x
  · subst hy
    rw [beq_self_eq_true] at e
    cases e
    exact ⟨hk, v, by simp, hr.mono keepR⟩
  · have : (y == x) = false := by simpa using hy
    rw [this] at e
    have z := S.loc y lv e
    cases lv with
    | val u => obtain ⟨k, w, hw, q⟩ := z; exact ⟨k, w, by simpa [hy] using hw, q.mono keepR⟩
    | cell c => exact z

noncomputable def notComp : Expr → Bool
  | .ListComp .. | .SetComp .. | .DictComp .. => false
  | _ => true
theorem swaps_not {e : Expr} (h : notComp e = true) (t : Option Expr) (l : Nat) (env : Env) : swapsWith e t l env = pure false := by
  cases e <;> first | rfl | cases h

theorem ex_assign {x : Str} {px pos : Pos} {e : Expr} (hx : md.sc.lookup x = some .local) (h : EvW G md e loc σ (AsgQ x loc Q) X) (hn : notComp e = true := by rfl) :
    Ex1 G md (.Assign [.Name x px] e pos) loc σ Q X := fun A env m s S => by
  refine wpAny_Assign_Name (wpAny_mono (h A env m s S) (fun v s' q => ?_) fun _ _ q => q.sx S) (swaps_not hn ..)
  obtain ⟨r, σ', h1, h2, h3, S'⟩ := S.ev q
  refine bind_local S' hx h2 fun s'' S'' a => ?_
  exact ⟨.next, _, σ', _, h1, rfl, (h3.l _).trans a, S''.ns, S''.sim, S''.loc⟩

theorem ex_expr {e : Expr} {pos : Pos} (h : EvW G md e loc σ (NxtQ loc Q) X) (hn : notComp e = true := by rfl) : Ex1 G md (.Expr e pos) loc σ Q X := fun A env m s S => by
  refine wpAny_Expr_any (wpAny_mono (h A env m s S) (fun v s' q => ?_) fun _ _ q => q.sx S) (by unfold interactive; rw [S.frm.kind]; rfl) (swaps_not hn ..)
  obtain ⟨r, σ', h1, h2, h3, S'⟩ := S.ev q
  exact ⟨.next, loc, σ', m, h1, rfl, h3.l _, S'.ns, S'.sim, S'.loc⟩
end
end Mine
end

section
namespace Mine

section
variable {G : Gd} {md : Md} {A : Around} {env : Env} {m : Str → Option Value} {loc : Loc} {σ σ' : Store} {s s' : Shared} {X : Exn → Prop}

/-- what the air's steps keep of what stood -/
theorem air_keepL {L : Addr} {h0 h h' : Heap} {S : List Addr} (k : KeepL L σ h0 h) (st : AirStep S h0 h h') (hm : ∀ a ∈ S, σ a = some .mark) : KeepL L σ h0 h' := fun b o e => by
  have hs : (h0.get? b).isSome = true := by rw [e]; rfl
  refine ⟨fun z => ?_, fun z n => ?_⟩
  · exact (st.1 b o ((k b o e).1 z) hs).1 fun hb => by rw [hm b hb] at z; cases z
  · obtain ⟨o', e', q⟩ := (k b o e).2 z n
    obtain ⟨o'', e'', q'⟩ := (st.1 b o' e' hs).2
    exact ⟨o'', e'', q.trans q'⟩
theorem air_ns {L : Addr} {h0 h h' : Heap} {S : List Addr} {m : Str → Option Value} (hn : h.Ns L m) (hL : ∃ o, h0.get? L = some o) (st : AirStep S h0 h h') : h'.Ns L m :=
  ns_slots hn fun o e => (st.1 L o e (by obtain ⟨o', e'⟩ := hL; rw [e']; rfl)).2

/-- the frames at an exception -/
theorem sx_frames {e : Value} (F : Frm G md A env σ s.heap) (q : SX G env σ X s e s') :
    ∃ fenv outer L, A.frames = some (fenv :: outer) ∧ fenv.frame = some L ∧ env.frame = some L ∧ Frames G.base s'.heap (fenv :: outer) ∧ (∀ a ∈ frs (fenv :: outer), σ a = some .mark) ∧ ∀ a ∈ frs (fenv :: outer), ∃ o, s.heap.get? a = some o := by
  obtain ⟨h1, h2, hn', h3, h4, h5, h6, h7, ⟨fenv, outer, L, f1, f2, f3, f4, f5⟩, h9, h10, h11, h12⟩ := F
  obtain ⟨x, _, _, _, k, _, m', hn⟩ := q
  refine ⟨fenv, outer, L, f1, f2, f3, ?_, f5, f4.all⟩
  have aux : ∀ {l : List Env}, (∀ a ∈ frs l, σ a = some .mark) → s.heap.FunFrames G.base l → s'.heap.FunFrames G.base l := by
    intro l
    induction l with
    | nil => intro _ _; trivial
    | cons e1 rest ih =>
      rintro hm ⟨hk, ⟨L1, o, hf, hnn, ho, hd⟩, hr⟩
      have hm1 : σ L1 = some .mark := hm L1 (by unfold frs; rw [List.filterMap_cons, hf]; exact List.mem_cons_self ..)
      refine ⟨hk, ?_, ih (fun a ha => hm a (by unfold frs; rw [List.filterMap_cons, hf]; exact List.mem_cons_of_mem _ ha)) hr⟩
      by_cases hl : L1 = env.locals
      · subst hl
        obtain ⟨o', es, ep, ho', hd', _⟩ := hn
        exact ⟨_, o', hf, hnn, ho', fun vs q => by rw [hd'] at q; cases q⟩
      · obtain ⟨o', e', q⟩ := (k L1 o ho).2 hm1 hl
        exact ⟨L1, o', hf, hnn, e', fun vs => q.data ▸ hd vs⟩
  exact aux f5 f4

/-- an exception that looks at its frame -/
theorem sx_note {e : Value} {Qu : Unit → Shared → Prop} {E : Value → Shared → Prop} (F : Frm G md A env σ s.heap) (hL : ∃ o, s.heap.get? env.locals = some o) (q : SX G env σ X s e s')
    (hQ : ∀ s'' L, env.frame = some L → SX G env σ X s e s'' → (∃ x, X x ∧ Up G.P s.heap x (· = some (rawInt L)) e s''.heap) → Qu () s'') : wpAny G.M A (noteFrame e env) Qu E s' := by
  obtain ⟨fenv, outer, L, f1, f2, f3, f4, f5, f6⟩ := sx_frames F q
  obtain ⟨x, hx, U, ⟨h', tk, rfl⟩, k, l, m', hn⟩ := q
  refine up_note f1 f2 f3 f4 l f6 U fun h'' U' st F' => ?_
  refine hQ _ L f3 ⟨x, hx, ?_, ⟨_, _, rfl⟩, air_keepL k st f5, l.trans st.2, m', air_ns hn hL st⟩ ⟨x, hx, U'⟩
  obtain ⟨ea, dx, oe, vs, es, n, r1, r2, r3, r4, r5, r6, r7, r8, r⟩ := U'
  refine ⟨ea, dx, oe, vs, es, n, r1, r2, r3, r4, r5, r6, r7, ?_, r⟩
  rcases r8 with ⟨z, _⟩ | ⟨T, oT, ts, f, z1, z2, z3, z4, z5, z6, _⟩
  · exact .inl ⟨z, trivial⟩
  · exact .inr ⟨T, oT, ts, f, z1, z2, z3, z4, z5, z6, trivial⟩

theorem up_any {P : Params} {h0 h : Heap} {x : Exn} {q : Option Value → Prop} {e : Value} (U : Up P h0 x q e h) : Up P h0 x (fun _ => True) e h := by
  obtain ⟨ea, dx, oe, vs, es, n, r1, r2, r3, r4, r5, r6, r7, r8, r⟩ := U
  refine ⟨ea, dx, oe, vs, es, n, r1, r2, r3, r4, r5, r6, r7, ?_, r⟩
  rcases r8 with ⟨z, _⟩ | ⟨T, oT, ts, f, z1, z2, z3, z4, z5, z6, _⟩
  · exact .inl ⟨z, trivial⟩
  · exact .inr ⟨T, oT, ts, f, z1, z2, z3, z4, z5, z6, trivial⟩

theorem sx_flight {e : Value} {fl : Option Addr} {L : Addr} {Qu : Unit → Shared → Prop} {E : Value → Shared → Prop} (F : Frm G md A env σ s.heap) (hL : ∃ o, s.heap.get? env.locals = some o) (q : SX G env σ X s e s')
    (u : ∃ x, X x ∧ Up G.P s.heap x (· = some (rawInt L)) e s'.heap)
    (hQ : ∀ s'', SX G env σ X s e s'' → (∃ x, X x ∧ Up G.P s.heap x (· = some (fl.elim .none fun f => rawInt f)) e s''.heap) → Qu () s'') : wpAny G.M A (setFlight e fl) Qu E s' := by
  obtain ⟨fenv, outer, L, f1, f2, f3, f4, f5, f6⟩ := sx_frames F q
  obtain ⟨_, _, _, ⟨h', tk, rfl⟩, k, l, m', hn⟩ := q
  obtain ⟨x, hx, U⟩ := u
  refine up_flight (S := frs (fenv :: outer)) f4 U (by simp) fun h'' U' st F' => ?_
  exact hQ _ ⟨x, hx, up_any U', ⟨_, _, rfl⟩, air_keepL k st f5, l.trans st.2, m', air_ns hn hL st⟩ ⟨x, hx, U'⟩

/-- the frame's own activations pass it on -/
theorem passes_sx (F : Frm G md A env σ s.heap) (hL : ∃ o, s.heap.get? env.locals = some o) : PassesOwn G.M A env (SX G env σ X s) := fun e s' q => by
  refine sx_note F hL q fun s'' L hf q' u => ?_
  show wpAny G.M A _ _ _ s''
  obtain ⟨x, hx, ea, dx, oe, vs, es, n, rfl, r2, r3, r4, r5, r6, r7, r8, r⟩ := id u
  rcases r8 with ⟨_, z⟩ | ⟨T, oT, ts, f, z1, z2, z3, z4, z5, z6, z7⟩
  · cases z
  refine wpAny_bind (wpAny_field r3 r6 z1 ?_)
  rw [if_neg (by simp)]
  exact sx_flight F hL q' u fun s3 q3 _ => q3

/-- an exception leaves its frame -/
theorem sx_leave {e : Value} {E : Value → Shared → Prop} {Qu : Unit → Shared → Prop} (F : Frm G md A env σ s.heap) (hL : ∃ o, s.heap.get? env.locals = some o) (q : SX G env σ X s e s')
    (hQ : ∀ s'', SX G env σ X s e s'' → Qu () s'') : wpAny G.M A (leaving env e) Qu E s' := by
  unfold leaving
  refine wpAny_bind (sx_note F hL q fun s'' L hf q' u => ?_)
  exact sx_flight F hL q' u fun s3 q3 _ => hQ s3 q3
end

/-- a def of the text's top, called by place -/
structure FnAt (G : Gd) (f : Addr) (ps : List Str) (body : List Stmt) (names : List (Str × NameKind)) (o : Obj) (fd : FuncData) : Prop where
  at_ : G.base.get? f = some o
  data : o.data = .func fd
  body : fd.body = .stmts body
  names : fd.scope.names = names
  code : G.base.CodeRec fd.code fd.qualname
  kind : fd.scope.kind = .function
  co : fd.scope.isCoroutine = false
  gen : fd.scope.isGenerator = false
  globals : fd.globals = mainGlobals
  builtins : fd.builtins = builtinsNs
  closure : fd.closure = []
  binds : ∀ s vals, vals.length = ps.length → G.base.StaysIn s.heap → BindsTo s fd ⟨vals, []⟩ (ps.zip vals)
  nodup : ps.Nodup

noncomputable def CallW (G : Gd) (n : Nat) (f : Value) (args : List V) (σ : Store) (Q : V → Store → Prop) (X : Exn → Prop) : Prop :=
  ∀ md A env m loc s vals, n ≤ md.n → md.hd = none → St G md A env m loc σ s → RelVs G.P σ s.heap args vals → wpAny G.M A (call f vals) (EQ G σ Q s) (EX G σ X s) s

noncomputable def CallC (G : Gd) (n : Nat) (f : Value) (args : List V) (σ : Store) (Q : V → Store → Prop) (X : Exn → Prop) : Prop :=
  ∀ md A env m loc s vals, n ≤ md.n → md.hd = none → St G md A env m loc σ s → RelVs G.P σ s.heap args vals → codeAny G.M A (.call f ⟨vals, []⟩) (fun r s' => match r with | .ok (.ret v) => EQ G σ Q s v s' | .ok _ => False | .error e => EX G σ X s e s') s
theorem CallC.w {G : Gd} {n : Nat} {f : Value} {args : List V} {σ : Store} {Q : V → Store → Prop} {X : Exn → Prop} (h : CallC G n f args σ Q X) : CallW G n f args σ Q X := fun md A env m loc s vals h1 h2 h3 h4 => wpAny_call (h md A env m loc s vals h1 h2 h3 h4)
theorem relVs_zip {P : Params} {σ : Store} {h : Heap} {ps : List Str} : ∀ {args : List V} {vals : List Value}, RelVs P σ h args vals → ps.length = args.length → ps.Nodup →
    ∀ x v, (ps.zip (args.map LV.val)).lookup x = some v → x ∈ ps ∧ ∃ u w, v = .val u ∧ (ps.zip vals).reverse.lookup x = some w ∧ RelV P σ h u w := by
  induction ps with
  | nil => intro _ _ _ _ _ x v e; cases e
  | cons p ps ih =>
    intro args vals r hl nd x v e
    cases args with
    | nil => cases hl
    | cons a args =>
    obtain ⟨w, ws, rfl, r1, r2⟩ := r
    obtain ⟨n1, n2⟩ := List.nodup_cons.mp nd
    rw [List.map_cons, List.zip_cons_cons, List.lookup_cons] at e
    rw [List.zip_cons_cons, List.reverse_cons, List.lookup_append]
    by_cases hx : x = p
    · subst hx
      rw [beq_self_eq_true] at e
      cases e
      have : (ps.zip ws).reverse.lookup x = none := by
        rw [List.lookup_eq_none_iff]
        intro q hq
        refine bne_iff_ne.mpr fun q' => n1 ?_
        rw [q']; exact (List.of_mem_zip (List.mem_reverse.mp hq)).1
      exact ⟨List.mem_cons_self .., a, w, rfl, by rw [this]; simp, r1⟩
    · rw [beq_eq_false_iff_ne.mpr hx] at e
      obtain ⟨h1, u, w', h2, h3, h4⟩ := ih r2 (Nat.succ.inj hl) n2 x v e
      exact ⟨List.mem_cons_of_mem _ h1, u, w', h2, by rw [h3]; rfl, h4⟩

theorem mem_lookup_zip {ps : List Str} {vals : List Value} {names : List (Str × NameKind)} (h : ∀ p ∈ ps, names.lookup p = some .local) : ∀ x ∈ ps.zip vals, names.lookup x.1 = some .local :=
  fun x hx => h _ (List.of_mem_zip hx).1

abbrev FnQ (Q : V → Store → Prop) (L : Addr) : Flw → Loc → Store → Prop := fun fl _ σ' => match fl with | .ret v => Q v (era σ' L) | .next => Q .none (era σ' L) | _ => False
theorem dep0 {a k : Nat} (h : a + k ≤ 900) : a < recursionLimit := Nat.lt_of_le_of_lt (Nat.le_trans (Nat.le_add_right _ _) h) (by decide)
theorem dep1 {a n k b : Nat} (hk : n + 1 ≤ k) (h : a + k ≤ b) : a + 1 + n ≤ b := by
  rw [Nat.add_assoc, Nat.add_comm 1 n]; exact Nat.le_trans (Nat.add_le_add_left hk a) h
theorem dep2 {a n k b : Nat} (hk : n + 1 ≤ k) (h : a + 20 * k + 200 ≤ b) : a + 3 + 20 * n + 200 ≤ b := by
  refine Nat.le_trans (Nat.add_le_add_right ?_ 200) h
  rw [Nat.add_assoc]
  refine Nat.add_le_add_left (Nat.le_trans ?_ (Nat.mul_le_mul_left 20 hk)) a
  rw [Nat.mul_succ, Nat.add_comm 3]
  exact Nat.add_le_add_left (by decide) _
section
variable {G : Gd} {n : Nat} {f L : Addr} {ps : List Str} {body : List Stmt} {names : List (Str × NameKind)} {o : Obj} {fd : FuncData} {args : List V} {σ : Store} {s : Shared} {h₀ : Heap} {tk : Nat} {A : Around} {vals : List Value}
theorem fresh_ne (hL : s.heap.get? L = none) : ∀ b o, s.heap.get? b = some o → b ≠ L := fun b o e q => by rw [q, hL] at e; cases e
theorem fresh_st (sim : Sim G.P σ s.heap) (hL : s.heap.get? L = none) : σ L = none := by
  cases hq : σ L with
  | none => rfl
  | some mo => obtain ⟨o, ho, _⟩ := sim _ _ hq; rw [hL] at ho; cases ho
theorem fresh_base (stays : G.base.StaysIn s.heap) (hL : s.heap.get? L = none) : G.base.get? L = none := by
  cases hq : G.base.get? L with
  | none => rfl
  | some o => have := stays _ _ hq; rw [hL] at this; cases this
/-- into a function's frame -/
theorem fn_enter {fl : List Env} (F : FnAt G f ps body names o fd) (hl : ∀ p ∈ ps, names.lookup p = some .local) (ok : G.Ok) (hha : A.handled = none) (hdp : A.depth + 1 + n ≤ 900) (hun : A.units + 3 + 20 * n + 200 ≤ cLine) (f1 : A.frames = some fl) (f4 : Frames G.base s.heap fl)
    (f5 : ∀ b ∈ frs fl, σ b = some .mark) (stays : G.base.StaysIn s.heap) (bdom : ∀ b o, G.base.get? b = some o → σ b = none) (sim : Sim G.P σ s.heap) (hL : s.heap.get? L = none) (hns : h₀.Ns L (fun x => (ps.zip vals).reverse.lookup x)) (hk : ∀ b o, s.heap.get? b = some o → h₀.get? b = some o)
    (hr : RelVs G.P σ s.heap args vals) (hn : ps.length = args.length) :
    St G ⟨n, none, names⟩ (A.deeper (callEnv fd L f)) (callEnv fd L f) (fun x => (ps.zip vals).reverse.lookup x) (ps.zip (args.map .val)) (upd σ L .mark) { s with heap := h₀, toks := tk } := by
  have neL := fresh_ne hL
  have up1 : ∀ b o, s.heap.get? b = some o → upd σ L .mark b = σ b := fun b o e => upd_ne σ _ (neL b o e)
  have kR : ∀ b o, s.heap.get? b = some o → σ b = none → h₀.get? b = some o ∧ upd σ L .mark b = none := fun b o e z => ⟨hk b o e, (up1 b o e).trans z⟩
  refine ⟨⟨ok, F.6, F.4, F.9, F.10, hha, hdp, hun, ⟨callEnv fd L f, fl, L, ?_, rfl, rfl, ⟨by show fd.scope.kind ≠ .module; rw [F.6]; decide, ?_, Heap.FunFrames.of_keeps (fun b o e _ => ⟨o, hk b o e, rfl⟩) f4⟩, fun b hb => ?_⟩, fun b o e => hk b o (stays b o e), fun b o e => ?_, upd_eq .., fresh_base stays hL⟩, hns, fun a mo e => ?_, fun x lv e => ?_⟩
  · show A.frames.map _ = _; rw [f1]; rfl
  · obtain ⟨o, es, ep, e', hd, _⟩ := hns
    exact ⟨L, o, rfl, fresh_base stays hL, e', fun vs q => by rw [hd] at q; cases q⟩
  · rcases List.mem_cons.mp (show b ∈ L :: frs fl from hb) with rfl | hb
    · exact upd_eq ..
    · obtain ⟨o, e⟩ := Frames.all f4 b hb
      rw [up1 b o e]; exact f5 b hb
  · rw [up1 b o (stays b o e)]; exact bdom b o e
  · by_cases ha : a = L
    · subst ha
      rw [upd_eq] at e; cases e
      obtain ⟨o, _, _, e', _⟩ := hns
      exact ⟨o, e', trivial⟩
    · rw [upd_ne σ _ ha] at e
      obtain ⟨o, ho, c⟩ := sim a mo e
      exact ⟨o, hk a o ho, c.mono kR⟩
  · obtain ⟨hx, u, w, rfl, hw, r⟩ := relVs_zip hr hn F.13 x lv e
    exact ⟨by show fd.scope.names.lookup x = _; rw [F.4]; exact hl x hx, w, hw, r.mono kR⟩
noncomputable def OutQ (G : Gd) (σ : Store) (Q : V → Store → Prop) (s : Shared) (s' : Shared) : Flow → Prop
  | .next => EQ G σ Q s .none s'
  | .ret w => EQ G σ Q s w s'
  | _ => False
/-- and out of it -/
theorem fn_out {env : Env} {fl : Flow} {s' : Shared} {Q : V → Store → Prop} (hL : s.heap.get? L = none) (hk : ∀ b o, s.heap.get? b = some o → h₀.get? b = some o) (q : SQ G env (upd σ L .mark) (FnQ Q L) { s with heap := h₀, toks := tk } fl s') (hloc : env.locals = L) : OutQ G σ Q s s' fl := by
  subst hloc
  have neL := fresh_ne hL
  have up1 : ∀ b o, s.heap.get? b = some o → upd σ env.locals .mark b = σ b := fun b o e => upd_ne σ _ (neL b o e)
  obtain ⟨fw, loc', σ', m', h1, h2, ⟨⟨hh, tk', rfl⟩, k', d', l'⟩, _, h5, _⟩ := q
  have off : ∀ b o, hh.get? b = some o → σ' b = none → hh.get? b = some o ∧ era σ' env.locals b = none := fun b o e z => ⟨e, by
    by_cases hb : b = env.locals
    · subst hb; exact era_eq ..
    · rw [era_ne _ hb]; exact z⟩
  have fin : ∀ r w, Q r (era σ' env.locals) → RelV G.P σ' hh r w → EQ G σ Q s w { s with heap := hh, toks := tk' } := fun r w hq hrw => by
    refine ⟨r, era σ' env.locals, hq, hrw.mono off, ⟨⟨_, _, rfl⟩, fun b o e => ⟨fun z => (k' b o (hk b o e)).1 ((up1 b o e).trans z), fun z => (k' b o (hk b o e)).2 ((up1 b o e).trans z) (neL b o e)⟩, fun b o e => ?_, fun b o e => l' b o (hk b o e)⟩, fun a mo e => ?_⟩
    · rw [era_ne _ (neL b o e)]
      have := d' b o (hk b o e)
      rw [up1 b o e] at this; exact this
    · by_cases ha : a = env.locals
      · subst ha; rw [era_eq] at e; cases e
      · rw [era_ne _ ha] at e
        obtain ⟨o, ho, c⟩ := h5 a mo e
        exact ⟨o, ho, c.mono off⟩
  cases fw with
  | next => cases h2; exact fin .none .none h1 rfl
  | brk => exact h1.elim
  | cont => exact h1.elim
  | ret v => obtain ⟨w, rfl, r⟩ := h2; exact fin v w h1 r
end
theorem call_fnB {G : Gd} {n : Nat} {f : Addr} {ps : List Str} {body : List Stmt} {names : List (Str × NameKind)} {o : Obj} {fd : FuncData} {args args' : List V} {σ : Store} {Q : V → Store → Prop} {X : Exn → Prop}
    (F : FnAt G f ps body names o fd) (hc : ∀ x ∈ names, x.2 ≠ .cell) (hl : ∀ p ∈ ps, names.lookup p = some .local) (hn : ps.length = args'.length)
    (hb : ∀ (s : Shared) vals, G.base.StaysIn s.heap → RelVs G.P σ s.heap args vals → ∃ vals', BindsTo s fd ⟨vals, []⟩ (ps.zip vals') ∧ RelVs G.P σ s.heap args' vals')
    (h : ∀ L, σ L = none → ExW G ⟨n, none, names⟩ body (ps.zip (args'.map .val)) (upd σ L .mark) (FnQ Q L) X) :
    CallC G (n + 1) (.ref f) args σ Q X := by
  intro md A env m loc s vals0 hmn hhd S hr0
  obtain ⟨vals, hbd, hr⟩ := hb s vals0 S.frm.stays hr0
  have hroom : A.depth < recursionLimit := dep0 S.frm.depth
  refine (codeAny_call_def hroom (S.frm.stays _ _ F.1) F.2 (S.frm.ok.top.nolimit.keeps S.frm.stays) (F.5.keeps S.frm.stays) F.3 hbd (by rw [F.4]; exact hc) (by rw [F.4]; exact mem_lookup_zip hl) (fun h₀ hns hk => ?_) F.7 F.8 F.6)
  have hL : s.heap.get? s.heap.objs.size = none := Heap.get?_none_of_le (Nat.le_refl _)
  obtain ⟨q1, q2, q3, q4, q5, q6, q7, q8, ⟨fenv, outer, Lf, f1, f2, f3, f4, f5⟩, q9, q10, q11, q12⟩ := S.frm
  have S1 := fn_enter (n := n) (tk := s.toks + (ps.zip vals).length) F hl q1 (q6.trans hhd) (dep1 hmn q7) (dep2 hmn q8) f1 f4 f5 q9 q10 S.sim hL hns hk hr hn
  have hLs : ∃ o, h₀.get? s.heap.objs.size = some o := let ⟨o, _, _, e, _⟩ := hns; ⟨o, e⟩
  refine wpAny_mono (h _ (fresh_st S.sim hL) _ _ _ _ S1) (fun fl s' q => ?_) fun e s' q => ?_
  · have z := fn_out hL hk q rfl
    cases fl <;> first | exact z | exact z.elim
  · refine sx_leave S1.frm hLs q fun s'' q' => ?_
    obtain ⟨x, hx, U, ⟨hh, tk, rfl⟩, k', l', _⟩ := q'
    have up1 : ∀ b o, s.heap.get? b = some o → upd σ s.heap.objs.size .mark b = σ b := fun b o e => upd_ne σ _ (fresh_ne hL b o e)
    exact ⟨x, hx, U.le fun b o e => ⟨o, hk b o e⟩, ⟨_, _, rfl⟩, fun b o e => ⟨fun z => (k' b o (hk b o e)).1 ((up1 b o e).trans z), fun z => (k' b o (hk b o e)).2 ((up1 b o e).trans z) (fresh_ne hL b o e)⟩, fun b o e => l' b o (hk b o e)⟩
theorem call_fnC {G : Gd} {n : Nat} {f : Addr} {ps : List Str} {body : List Stmt} {names : List (Str × NameKind)} {o : Obj} {fd : FuncData} {args : List V} {σ : Store} {Q : V → Store → Prop} {X : Exn → Prop}
    (F : FnAt G f ps body names o fd) (hc : ∀ x ∈ names, x.2 ≠ .cell) (hl : ∀ p ∈ ps, names.lookup p = some .local) (hn : ps.length = args.length)
    (h : ∀ L, σ L = none → ExW G ⟨n, none, names⟩ body (ps.zip (args.map .val)) (upd σ L .mark) (FnQ Q L) X) :
    CallC G (n + 1) (.ref f) args σ Q X := call_fnB F hc hl hn (fun s vals hs r => ⟨vals, F.binds s vals (by rw [hn]; exact r.length) hs, r⟩) h
theorem call_fn {G : Gd} {n : Nat} {f : Addr} {ps : List Str} {body : List Stmt} {names : List (Str × NameKind)} {o : Obj} {fd : FuncData} {args : List V} {σ : Store} {Q : V → Store → Prop} {X : Exn → Prop}
    (F : FnAt G f ps body names o fd) (hc : ∀ x ∈ names, x.2 ≠ .cell) (hl : ∀ p ∈ ps, names.lookup p = some .local) (hn : ps.length = args.length)
    (h : ∀ L, σ L = none → ExW G ⟨n, none, names⟩ body (ps.zip (args.map .val)) (upd σ L .mark) (FnQ Q L) X) :
    CallW G (n + 1) (.ref f) args σ Q X := (call_fnC F hc hl hn h).w
theorem era_upd {σ : Store} {L : Addr} {m : MObj} (h : σ L = none) : era (upd σ L m) L = σ := by
  funext b
  unfold era upd
  by_cases hb : b = L
  · subst hb; simp [h]
  · simp [hb]
theorem era_comm {σ : Store} {L a : Addr} {m : MObj} (h : a ≠ L) : era (upd σ a m) L = upd (era σ L) a m := by
  funext b
  unfold era upd
  by_cases hb : b = L
  · subst hb; simp [Ne.symm h]
  · simp [hb]
theorem upd_upd {σ : Store} {a : Addr} {m m' : MObj} : upd (upd σ a m) a m' = upd σ a m' := by
  funext b
  unfold upd
  by_cases hb : b = a <;> simp [hb]
theorem upd_comm {σ : Store} {a b : Addr} {m m' : MObj} (h : a ≠ b) : upd (upd σ a m) b m' = upd (upd σ b m') a m := by
  funext c
  unfold upd
  by_cases hc : c = b
  · subst hc; simp [Ne.symm h]
  · simp [hc]
end Mine
end

section
namespace Mine

section
variable {G : Gd} {md : Md} {A : Around} {env : Env} {m : Str → Option Value} {loc : Loc} {σ σ' : Store} {s s' : Shared} {X : Exn → Prop}

/-- the ends of a list of expressions -/
structure AB (G : Gd) (σ : Store) (rs : List V) (σ' : Store) (s : Shared) (vs : List Value) (s' : Shared) : Prop where
  rel : RelVs G.P σ' s'.heap rs vs
  af : After σ σ' s s'
  sim : Sim G.P σ' s'.heap
inductive AQ (G : Gd) (σ : Store) (Q : List V → Store → Prop) (s : Shared) (vs : List Value) (s' : Shared) : Prop
  | mk (rs : List V) (σ' : Store) (q : Q rs σ') (b : AB G σ rs σ' s vs s')
noncomputable def EvsW (G : Gd) (md : Md) (es : List Expr) (loc : Loc) (σ : Store) (Q : List V → Store → Prop) (X : Exn → Prop) : Prop :=
  ∀ pos A env m s, St G md A env m loc σ s → wpAny G.M A (spliced (backTo pos (starEach es env))) (AQ G σ Q s) (EX G σ X s) s
noncomputable def notStar : Expr → Bool
  | .Starred .. => false
  | _ => true
theorem star_not {e : Expr} (h : notStar e = true) (rest : List Expr) (env : Env) : starEach (e :: rest) env = (false, eval e env) :: starEach rest env := by
  cases e <;> first | rfl | cases h
theorem plainArgs {pos : Pos} : ∀ {es : List Expr} {env : Env}, es.all notStar = true → (backTo pos (starEach es env)).any (·.1) = false
  | [], _, _ => rfl
  | e :: es, env, h => by
    rw [List.all_cons, Bool.and_eq_true] at h
    rw [star_not h.1]
    show (false || (backTo pos (starEach es env)).any (·.1)) = false
    rw [plainArgs h.2]; rfl
abbrev ConQ (v : V) (Q : List V → Store → Prop) : List V → Store → Prop := fun vs σ2 => Q (v :: vs) σ2
abbrev EvsQ (G : Gd) (md : Md) (es : List Expr) (loc : Loc) (Q : List V → Store → Prop) (X : Exn → Prop) : V → Store → Prop := fun v σ1 => EvsW G md es loc σ1 (ConQ v Q) X
abbrev CalQ (G : Gd) (n : Nat) (f : Value) (Q : V → Store → Prop) (X : Exn → Prop) : List V → Store → Prop := fun vs σ1 => CallW G n f vs σ1 Q X
abbrev IsQ (v0 : V) (σ0 : Store) : V → Store → Prop := fun v σ1 => v = v0 ∧ σ1 = σ0
theorem evs_nil {Q : List V → Store → Prop} (h : Q [] σ) : EvsW G md [] loc σ Q X := fun pos A env m s S =>
  PySem.Calls.spliced_nil ⟨[], σ, h, rfl, .refl .., S.sim⟩
theorem evs_cons {e : Expr} {es : List Expr} {Q : List V → Store → Prop} (h : EvW G md e loc σ (EvsQ G md es loc Q X) X) (hn : notStar e = true := by rfl) :
    EvsW G md (e :: es) loc σ Q X := fun pos A env m s S => by
  rw [star_not hn]
  refine PySem.Calls.spliced_cons (wpAny_mono (h A env m s S) (fun v s1 q => ?_) fun _ _ e => e)
  obtain ⟨r, σ1, h1, h2, h3, S1⟩ := S.ev q
  refine wpAny_mono (h1 pos A env m s1 S1) (fun vs s2 q2 => ?_) fun _ _ e => e.then h3
  obtain ⟨rs, σ2, k1, k2, k3, k4⟩ := q2
  exact ⟨r :: rs, σ2, k1, .cons (h2.step k3.keep k3.dom) k2, h3.trans k3, k4⟩

/-- what holds what is called -/
noncomputable def KeepAt (G : Gd) (f : Value) : Prop := ∀ h, G.base.StaysIn h → ∃ k, (k = Keeper.frame ∨ k = Keeper.machine ∨ k = Keeper.boundFrame) ∧ Looks G.M h (keeperOf f) k
theorem keep_builtin (i : String) : KeepAt G (.builtin i) := fun _ _ => ⟨.machine, .inr (.inl rfl), .now⟩
theorem keep_type (i : String) : KeepAt G (.type i) := fun _ _ => ⟨.machine, .inr (.inl rfl), .now⟩
theorem evalArgs_any {pos : Pos} {f : Value} {es : List Expr} {Qa : Args → Shared → Prop} {E : Value → Shared → Prop} (hn : es.all notStar = true) (h : wpAny G.M A (spliced (backTo pos (starEach es env))) (fun vs s' => Qa ⟨vs, []⟩ s') E s) :
    wpAny G.M A (evalArgs f true (backTo pos (starEach es env)) []) Qa E s := by
  cases es with
  | nil =>
    unfold evalArgs
    show wpAny G.M A (spliced [] >>= _) Qa E s
    refine wpAny_bind (wpAny_mono h (fun vs s' h' => ?_) fun _ _ x => x)
    refine wpAny_holding ?_
    exact wpAny_bind (wpAny_pure (wpAny_bind (wpAny_pure (wpAny_pure h'))))
  | cons e es =>
    rw [List.all_cons, Bool.and_eq_true] at hn
    rw [star_not hn.1] at h ⊢
    exact PySem.Calls.evalArgs_plain h

/-- a call of a value at hand, behind its first arguments -/
theorem call_with {pos : Pos} {f : Value} {n : Nat} {first : List Value} {rs : List V} {es : List Expr} {Q : V → Store → Prop} (S : St G md A env m loc σ s) (hk : KeepAt G f) (hn : es.all notStar = true) (hmd : n ≤ md.n) (hd : md.hd = none)
    (hf : RelVs G.P σ s.heap rs first) (h : EvsW G md es loc σ (fun vs σ1 => CallW G n f (rs ++ vs) σ1 Q X) X) : wpAny G.M A (callWith pos f first (backTo pos (starEach es env)) []) (EQ G σ Q s) (EX G σ X s) s := by
  refine callWith_of (P := fun h => G.base.StaysIn h) (by rw [plainArgs hn]; rfl) (fun h k => hk h k) (evalArgs_any hn (wpAny_mono (h pos A env m s S) (fun vs s1 q => ?_) fun _ _ e => e))
  obtain ⟨us, σ1, k1, k2, k3, k4⟩ := q
  have S1 := S.after k3 k4
  exact ⟨S1.frm.stays, wpAny_mono (k1 md A env m loc s1 _ hmd hd S1 ((hf.step k3.keep k3.dom).append k2)) (fun _ _ z => z.then k3) fun _ _ z => z.then k3⟩

/-- a name that stands for a thing of its own -/
noncomputable def atomV : V → Option Value
  | .ref a => some (.ref a)
  | .ty n => some (.type n)
  | .bi n => some (.builtin n)
  | _ => none
theorem atom_eq {P : Params} {h : Heap} {v : V} {w u : Value} (e : atomV v = some w) (r : RelV P σ h v u) : u = w := by
  cases v <;> cases e <;> exact r

theorem ev_call {x : Str} {px pos : Pos} {es : List Expr} {fv : V} {f : Value} {n : Nat} {Q : V → Store → Prop} (hf : EvW G md (.Name x px) loc σ (IsQ fv σ) X) (ha : atomV fv = some f) (hk : KeepAt G f) (hmd : n ≤ md.n) (hd : md.hd = none)
    (h : EvsW G md es loc σ (CalQ G n f Q X) X) (hn : es.all notStar = true := by rfl) : EvW G md (.Call (.Name x px) es [] pos) loc σ Q X := fun A env m s S => by
  refine Call_ (wpAny_mono (hf A env m s S) (fun v s1 q => ?_) fun _ _ e => e)
  obtain ⟨r, σ1, ⟨rfl, rfl⟩, h2, h3, S1⟩ := S.ev q
  obtain rfl := atom_eq ha h2
  exact wpAny_mono (call_with S1 hk hn hmd hd (rs := []) .nil h) (fun _ _ z => z.then h3) fun _ _ z => z.then h3
end
end Mine
end

section
namespace Mine

noncomputable def getF : List Str → List V → Str → Option V
  | k :: ks, v :: vs, x => if k = x then some v else getF ks vs x
  | _, _, _ => none
noncomputable def putFk : List Str → Str → List Str
  | k :: ks, x => if k = x then k :: ks else k :: putFk ks x
  | [], x => [x]
noncomputable def putFv : List Str → List V → Str → V → List V
  | k :: ks, w :: vs, x, v => if k = x then v :: vs else w :: putFv ks vs x v
  | _, _, _, v => [v]
noncomputable def plainV : V → Bool
  | .bi _ => false
  | _ => true
/-- the object that a value is, or leads to in the store: its class, its names, what they hold -/
noncomputable def look (σ : Store) : V → Option (Addr × List Str × List V)
  | .obj C ks vs => some (C, ks, vs)
  | .ref a => match σ a with
    | some (.ins C dx) => match σ dx with
      | some (.ns ks vs) => some (C, ks, vs)
      | _ => none
    | _ => none
  | _ => none
/-- the list that a value is, or leads to in the store -/
noncomputable def lk (σ : Store) : V → V
  | .ref a => match σ a with
    | some (.lst l) => .lst l
    | _ => .ref a
  | v => v

section
variable {P : Params} {σ : Store} {h : Heap}

theorem handed_plain {x : V} {v : Value} (hp : plainV x = true) (r : RelV P σ h x v) : handedIn v = true := by
  cases x with
  | none => cases r; rfl
  | bool b => cases r; rfl
  | int i => obtain ⟨t, rfl⟩ := r; rfl
  | str s => obtain ⟨_, t, rfl⟩ := r; rfl
  | tup l => obtain ⟨a, vs, n, rfl, _⟩ := r; rfl
  | lst l => obtain ⟨a, vs, n, rfl, _⟩ := r; rfl
  | sdc ks vs => obtain ⟨a, vs, n, rfl, _⟩ := r; rfl
  | idc ks vs => obtain ⟨a, vs, n, rfl, _⟩ := r; rfl
  | obj C ns vs => obtain ⟨a, dx, es, n, rfl, _⟩ := r; rfl
  | xc C ks vs => obtain ⟨a, _, _, _, _, rfl, _⟩ := r; rfl
  | rng n => obtain ⟨a, _, _, _, rfl, _⟩ := r; rfl
  | ref a => cases r; rfl
  | ty n => cases r; rfl
  | bi n => cases hp

theorem find_of_ks {ks : List Str} : ∀ {vs : List V} {es : List DictEntry} {x : Str} {u : V}, RelKs ks (es.map (·.key)) → RelVs P σ h vs (es.map (·.val)) → getF ks vs x = some u →
    ∃ e, es.find? (·.key.isStr x) = some e ∧ RelV P σ h u e.val := by
  induction ks with
  | nil => intro vs es x u _ _ g; cases vs <;> cases g
  | cons k ks ih =>
    intro vs es x u rk rv g
    cases vs with
    | nil => cases g
    | cons v vs =>
    obtain ⟨t, rest, hk, rk'⟩ := rk
    obtain ⟨w, ws, hv, r1, r2⟩ := rv
    cases es with
    | nil => cases hk
    | cons e es =>
      injection hk with hk1 q2
      injection hv with q3 q4
      subst q2 q3 q4
      replace hk1 : e.key = .str k t := hk1
      rw [List.find?_cons, hk1]
      by_cases hkx : k = x
      · rw [show getF (k :: ks) (v :: vs) x = some v from if_pos hkx] at g; cases g
        subst hkx
        rw [show (Value.str k t).isStr k = true by simp [Value.isStr]]
        exact ⟨e, rfl, r1⟩
      · rw [show getF (k :: ks) (v :: vs) x = getF ks vs x from if_neg hkx] at g
        rw [show (Value.str k t).isStr x = false by simp [Value.isStr, hkx]]
        exact ih rk' r2 g
theorem see_obj {x : V} {v : Value} {C : Addr} {ks : List Str} {vs : List V} (sim : Sim P σ h) (r : RelV P σ h x v) (l : look σ x = some (C, ks, vs)) :
    ∃ a dx es n, v = .ref a ∧ h.get? a = some (instObj C dx) ∧ h.get? dx = some (dctObj es n) ∧ RelKs ks (es.toList.map (·.key)) ∧ RelVs P σ h vs (es.toList.map (·.val)) := by
  cases x <;> try (cases l; done)
  · cases l
    obtain ⟨a, dx, es, n, rfl, _, _, h1, h2, h3, h4⟩ := r
    exact ⟨a, dx, es, n, rfl, h1, h2, h3, h4⟩
  · rename_i a
    cases r
    unfold look at l
    dsimp only at l
    split at l
    · rename_i C' dx hC
      split at l
      · rename_i ks' vs' hns
        cases l
        obtain ⟨o, ho, rfl⟩ := sim a _ hC
        obtain ⟨o', ho', es, n, rfl, h3, h4⟩ := sim dx _ hns
        exact ⟨a, dx, es, n, rfl, ho, ho', h3, h4⟩
      · cases l
    · cases l
theorem see_lst {x : V} {v : Value} {l : List V} (sim : Sim P σ h) (r : RelV P σ h x v) (e : lk σ x = .lst l) : ∃ a vs n, v = .ref a ∧ h.get? a = some (lstObj vs n) ∧ RelVs P σ h l vs.toList := by
  cases x <;> try (cases e; done)
  · cases e
    obtain ⟨a, vs, n, rfl, _, h1, h2⟩ := r
    exact ⟨a, vs, n, rfl, h1, h2⟩
  · rename_i a
    cases r
    unfold lk at e
    dsimp only at e
    split at e
    · rename_i l' hl
      cases e
      obtain ⟨o, ho, vs, n, rfl, h2⟩ := sim a _ hl
      exact ⟨a, vs, n, rfl, ho, h2⟩
    · cases e
end

section
variable {G : Gd} {md : Md} {A : Around} {env : Env} {m : Str → Option Value} {loc : Loc} {σ σ' : Store} {s s' : Shared} {X : Exn → Prop}

/-- a name of an object is read -/
theorem get_attr {x : V} {v : Value} {C : Addr} {ks own : List Str} {vs : List V} {name : Str} {u : V} {expr : Bool} {Qv : Value → Shared → Prop} {E : Value → Shared → Prop} (ok : G.Ok) (hb : G.base.StaysIn s.heap) (sim : Sim G.P σ s.heap)
    (r : RelV G.P σ s.heap x v) (l : look σ x = some (C, ks, vs)) (hc : G.cls.lookup C = some own) (hm : own.contains name = true) (hg : getF ks vs name = some u) (hp : plainV u = true)
    (h : ∀ w, RelV G.P σ s.heap u w → Qv w { s with toks := s.toks + 1 }) : wpAny G.M A (getAttr v name expr) Qv E s := by
  obtain ⟨a, dx, es, n, rfl, h1, h2, h3, h4⟩ := see_obj sim r l
  obtain ⟨K, hK, hcl⟩ := ok.cls C own hc
  simp only [clsOk, Bool.and_eq_true, List.all_eq_true] at hcl
  obtain ⟨⟨⟨⟨c1, c2⟩, c3⟩, c4⟩, c5⟩ := hcl
  obtain ⟨c6, c7⟩ := c5 name (List.contains_iff_mem.mp hm)
  obtain ⟨e, he, hr⟩ := find_of_ks h3 h4 hg
  have hne : ∃ attr, findIn K (.ref C) name = some attr ∧ noGet K attr = true := by
    split at c6
    · rename_i attr ha; exact ⟨attr, ha, c6⟩
    · cases c6
  obtain ⟨attr, ha, hng⟩ := hne
  refine get_value (od := some (dctObj es n)) (v := e.val) (hK.keeps hb) ⟨h1, rfl, rfl, h2⟩ (plainGet_of (name := "") c2).1 (findObj_own c1 ha hng ?_) (handed_plain hp hr) (h _ hr)
  show lookIn name (dctObj es n) = _
  unfold lookIn
  dsimp only
  rw [he]

inductive AttrR (G : Gd) (name : Str) (Q : V → Store → Prop) (x : V) (σ1 : Store) : Prop | mk (C : Addr) (ks : List Str) (vs : List V) (own : List Str) (u : V) (h1 : look σ1 x = some (C, ks, vs)) (h2 : G.cls.lookup C = some own) (h3 : own.contains name = true) (h4 : getF ks vs name = some u) (h5 : plainV u = true) (q : Q u σ1)
theorem ev_attr {e : Expr} {name : Str} {pos : Pos} {Q : V → Store → Prop} (h : EvW G md e loc σ (AttrR G name Q) X)
    (he : ∀ env, eval (.Attribute e name pos) env = (do
      let o ← eval e env
      standAt pos.atName
      let r ← holding [o] (getAttr o name true)
      letTemporaryGo e o r
      pure r) := by intro _; with_unfolding_all rfl) : EvW G md (.Attribute e name pos) loc σ Q X := fun A env m s S => by
  refine Attribute_any_ (wpAny_mono (h A env m s S) (fun v s1 q => ?_) fun _ _ z => z) (he env)
  obtain ⟨x, σ1, ⟨C, ks, vs, own, u, l1, l2, l3, l4, l5, l6⟩, h2, h3, S1⟩ := S.ev q
  exact get_attr S1.frm.ok S1.frm.stays S1.sim h2 l1 l2 l3 l4 l5 fun w hw => ⟨u, σ1, l6, hw, h3.trans (.tok ..), S1.sim⟩
end
end Mine
end

section
namespace Mine

section
variable {G : Gd} {md : Md} {A : Around} {env : Env} {m : Str → Option Value} {loc : Loc} {σ σ' : Store} {s s' : Shared} {X : Exn → Prop}

/-- an object of the store is put anew -/
theorem put_at {a : Addr} {mo mo' : MObj} {o' : Obj} {h' : Heap} {tk : Nat} (sim : Sim G.P σ s.heap) (ha : σ a = some mo) (hm : mo ≠ .mark) (hc : ∀ v, mo = .cell v → ∃ v', mo' = .cell v') (hs : Heap.SameBut a s.heap h') (ho : h'.get? a = some o') (c : ConcO G.P σ s.heap mo' o') :
    After σ (upd σ a mo') s { s with heap := h', toks := tk } ∧ Sim G.P (upd σ a mo') h' := by
  have kR : ∀ b o, s.heap.get? b = some o → σ b = none → h'.get? b = some o ∧ upd σ a mo' b = none := fun b o e z => by
    have hb : b ≠ a := by rintro rfl; rw [ha] at z; cases z
    exact ⟨(hs.2 b hb).trans e, (upd_ne σ _ hb).trans z⟩
  refine ⟨⟨⟨_, _, rfl⟩, fun b o e => ⟨fun z => (kR b o e z).1, fun z => ?_⟩, fun b o e => ⟨fun z => (kR b o e z).2, fun z => ?_, fun v z => ?_⟩, fun b o e => ?_⟩, fun b mb e => ?_⟩
  · have hb : b ≠ a := by rintro rfl; rw [ha] at z; cases z; exact hm rfl
    exact ⟨o, (hs.2 b hb).trans e, .refl o⟩
  · have hb : b ≠ a := by rintro rfl; rw [ha] at z; cases z; exact hm rfl
    exact (upd_ne σ _ hb).trans z
  · by_cases hb : b = a
    · subst hb
      rw [ha] at z; cases z
      obtain ⟨v', rfl⟩ := hc v rfl
      exact ⟨v', upd_eq ..⟩
    · exact ⟨v, (upd_ne σ _ hb).trans z⟩
  · by_cases hb : b = a
    · subst hb; exact ⟨o', ho⟩
    · exact ⟨o, (hs.2 b hb).trans e⟩
  · by_cases hb : b = a
    · subst hb
      rw [upd_eq] at e; cases e
      exact ⟨o', ho, c.mono kR⟩
    · rw [upd_ne σ _ hb] at e
      obtain ⟨o, h1, h2⟩ := sim b mb e
      exact ⟨o, (hs.2 b hb).trans h1, h2.mono kR⟩

theorem nsSet_exact {a : Addr} {es : List DictEntry} {n : Nat} {name : Str} {v : Value} {Qu : Unit → Shared → Prop} {E : Value → Shared → Prop} (ho : s.heap.get? a = some (dictOf es n)) (hk : ∀ e ∈ es, ∃ x t, e.key = .str x t)
    (h : Qu () { s with heap := s.heap.update a (Obj.putName name (PyData.keyHash G.P name) (.str name s.toks) v), toks := s.toks + 1 }) : wpAny G.M A (nsSet a name v) Qu E s := by
  unfold nsSet
  refine wpAny_bind (wpAny_bind (wpAny_askSetting (wpAny_pure (wpAny_bind (wpAny_mkText (wpAny_bind (wpAny_loadPart ho ?_)))))))
  dsimp only
  have hr : es.toArray.any (·.refKey) = false := by
    rw [List.any_toArray, List.any_eq_false]
    intro e he
    obtain ⟨x, t, hx⟩ := hk e he
    simp [DictEntry.refKey, hx]
  rw [aRefKeyMayBeTheName_at, hr, Bool.and_false]
  exact wpAny_updatePart ho h

theorem keys_str : ∀ {ks : List Str} {es : List DictEntry}, RelKs ks (es.map (·.key)) → ∀ e ∈ es, ∃ x t, e.key = .str x t
  | [], es, r, e, he => by
    cases es with
    | nil => cases he
    | cons _ _ => cases r
  | k :: ks, es, r, e, he => by
    obtain ⟨t, rest, hk, r'⟩ := r
    cases es with
    | nil => cases he
    | cons e0 es =>
      simp only [List.map_cons, List.cons.injEq] at hk
      obtain ⟨h1, rfl⟩ := hk
      rcases List.mem_cons.mp he with rfl | he
      · exact ⟨k, t, h1⟩
      · exact keys_str r' e he
theorem putL_ks {P : Params} {h : Heap} {name : Str} {hsh : Int} {t : Tok} {v : Value} {ks : List Str} : ∀ {es : List DictEntry}, RelKs ks (es.map (·.key)) → RelKs (putFk ks name) ((putL name hsh (.str name t) v es).map (·.key)) := by
  induction ks with
  | nil =>
    intro es r
    cases es with
    | nil => exact ⟨t, [], rfl, rfl⟩
    | cons _ _ => cases r
  | cons k ks ih =>
    intro es r
    obtain ⟨u, rest, hk, r'⟩ := r
    cases es with
    | nil => cases hk
    | cons e0 es =>
      injection hk with h1 h2
      subst h2
      replace h1 : e0.key = .str k u := h1
      unfold putFk putL
      rw [h1]
      by_cases hkx : k = name
      · subst hkx
        rw [if_pos rfl, if_pos (by simp [Value.isStr])]
        exact ⟨u, es.map (·.key), by rw [List.map_cons], r'⟩
      · rw [if_neg hkx, if_neg (by simp [Value.isStr, hkx])]
        exact ⟨u, _, by rw [List.map_cons, h1], ih r'⟩
theorem putL_vs {P : Params} {h : Heap} {name : Str} {hsh : Int} {t : Tok} {x : V} {v : Value} (rv : RelV P σ h x v) {ks : List Str} : ∀ {vs : List V} {es : List DictEntry}, RelKs ks (es.map (·.key)) → RelVs P σ h vs (es.map (·.val)) →
    RelVs P σ h (putFv ks vs name x) ((putL name hsh (.str name t) v es).map (·.val)) := by
  induction ks with
  | nil =>
    intro vs es r q
    cases es with
    | nil => cases vs <;> exact ⟨v, [], rfl, rv, rfl⟩
    | cons _ _ => cases r
  | cons k ks ih =>
    intro vs es r q
    obtain ⟨u, rest, hk, r'⟩ := r
    cases es with
    | nil => cases hk
    | cons e0 es =>
      injection hk with h1 h2
      subst h2
      replace h1 : e0.key = .str k u := h1
      cases vs with
      | nil => cases q
      | cons y vs =>
        obtain ⟨w, ws, hv, r1, r2⟩ := q
        injection hv with q1 q2
        subst q1 q2
        unfold putFv putL
        rw [h1]
        by_cases hkx : k = name
        · subst hkx
          rw [if_pos rfl, if_pos (by simp [Value.isStr])]
          exact ⟨v, es.map (·.val), rfl, rv, r2⟩
        · rw [if_neg hkx, if_neg (by simp [Value.isStr, hkx])]
          exact ⟨e0.val, _, rfl, r1, ih r' r2⟩
theorem putL_size {name : Str} {hsh : Int} {k v : Value} : ∀ es : List DictEntry, (putL name hsh k v es).length ≤ es.length + 1
  | [] => by simp [putL]
  | e :: es => by
    unfold putL
    split
    · simp
    · simp only [List.length_cons]; have := putL_size (name := name) (hsh := hsh) (k := k) (v := v) es; lia
theorem relKs_length : ∀ {ks : List Str} {l : List Value}, RelKs ks l → l.length = ks.length
  | [], _, e => by cases e; rfl
  | _ :: _, _, e => by obtain ⟨t, vs, rfl, h2⟩ := e; simp [relKs_length h2]

/-- a name of an object of the store is set -/
theorem set_attr {C a dx : Addr} {ks own : List Str} {vs : List V} {name : Str} {u : V} {w : Value} {Qu : Unit → Shared → Prop} {E : Value → Shared → Prop} (ok : G.Ok) (hb : G.base.StaysIn s.heap) (sim : Sim G.P σ s.heap)
    (ha : σ a = some (.ins C dx)) (hd : σ dx = some (.ns ks vs)) (hc : G.cls.lookup C = some own) (hm : own.contains name = true) (hz : ks.length ≤ 900) (hr : RelV G.P σ s.heap u w)
    (h : ∀ s', After σ (upd σ dx (.ns (putFk ks name) (putFv ks vs name u))) s s' → Sim G.P (upd σ dx (.ns (putFk ks name) (putFv ks vs name u))) s'.heap → Qu () s') : wpAny G.M A (setAttr (.ref a) name w) Qu E s := by
  obtain ⟨oa, h1, rfl⟩ := sim a _ ha
  obtain ⟨od, h2, es, n, rfl, h3, h4⟩ := sim dx _ hd
  obtain ⟨K, hK, hcl⟩ := ok.cls C own hc
  simp only [clsOk, Bool.and_eq_true, List.all_eq_true] at hcl
  obtain ⟨⟨⟨⟨c1, c2⟩, c3⟩, c4⟩, c5⟩ := hcl
  obtain ⟨c6, c7⟩ := c5 name (List.contains_iff_mem.mp hm)
  have X := hK.keeps hb
  have I : InstAt s.heap a (instObj C dx) C (some (dctObj es n)) := ⟨h1, rfl, rfl, h2⟩
  refine set_plain X I (beq_iff_eq.mp c4) ?_
  refine osa_open (s := { s with toks := s.toks + 1 }) X I c3 (beq_iff_eq.mp c7) fun b => ?_
  obtain ⟨cd, hcd, hdd⟩ := any_some c1
  refine wpAny_bind (wpAny_pure (wpAny_bind (wpAny_bind (wpAny_loadPart h1 (wpAny_bind ((looks_clsIn (h := s.heap) X hcd) _ _ _ _ (fun _ _ e => e) ?_))))))
  rw [hdd]
  refine wpAny_pure (a := some dx) (wpAny_bind (wpAny_pure (wpAny_bind ?_)))
  have h2' : s.heap.get? dx = some (dictOf es.toList n) := h2
  refine nsSet_exact (s := { s with toks := s.toks + 1 }) h2' (keys_str h3) ?_
  have hput := putName_dict name (PyData.keyHash G.P name) (.str name (s.toks + 1)) w es.toList n
  have hnew : (s.heap.update dx (Obj.putName name (PyData.keyHash G.P name) (.str name (s.toks + 1)) w)).get? dx = some (dictOf (putL name (PyData.keyHash G.P name) (.str name (s.toks + 1)) w es.toList) (putN name es.toList n)) := by
    rw [Heap.get?_update_self _ h2' (by rw [hput]; rfl), hput]
  obtain ⟨k1, k2⟩ := put_at (tk := s.toks + 2) sim hd (by simp) (by intro v e; cases e) (Heap.SameBut.update ..) hnew (mo' := .ns (putFk ks name) (putFv ks vs name u)) ⟨_, _, rfl, by
    simpa using putL_ks (P := G.P) (h := s.heap) h3, by simpa using putL_vs hr h3 h4⟩
  refine wpAny_bind (wpAny_lookBehind (s := { s with heap := _, toks := s.toks + 2 }) hnew (pastItsLine_dict ?_) (wpAny_pure (h _ k1 k2)))
  have := putL_size (name := name) (hsh := PyData.keyHash G.P name) (k := .str name (s.toks + 1)) (v := w) es.toList
  have hl := relKs_length h3
  rw [List.length_map] at hl
  rw [List.size_toArray, sizeLine_eq]
  lia

inductive SetR (G : Gd) (name : Str) (loc : Loc) (Q : Flw → Loc → Store → Prop) (u x : V) (σ2 : Store) : Prop | mk (a C dx : Addr) (ks : List Str) (vs : List V) (own : List Str) (h1 : x = .ref a) (h2 : σ2 a = some (.ins C dx)) (h3 : σ2 dx = some (.ns ks vs)) (h4 : G.cls.lookup C = some own) (h5 : own.contains name = true) (h6 : ks.length ≤ 900)
      (q : Q .next loc (upd σ2 dx (.ns (putFk ks name) (putFv ks vs name u))))
abbrev SetQ (G : Gd) (md : Md) (o : Expr) (name : Str) (loc : Loc) (Q : Flw → Loc → Store → Prop) (X : Exn → Prop) : V → Store → Prop := fun u σ1 => EvW G md o loc σ1 (SetR G name loc Q u) X
theorem ex_setattr {o e : Expr} {name : Str} {tp pos : Pos} {Q : Flw → Loc → Store → Prop}
    (h : EvW G md e loc σ (SetQ G md o name loc Q X) X) (hn : notComp e = true := by rfl) : Ex1 G md (.Assign [.Attribute o name tp] e pos) loc σ Q X := fun A env m s S => by
  refine plainObj_wpAny_Assign_Attribute (wpAny_mono (h A env m s S) (fun w s1 q => ?_) fun _ _ z => z.sx S) (swaps_not hn ..)
  obtain ⟨u, σ1, h1, h2, h3, S1⟩ := S.ev q
  refine wpAny_mono (h1 A env m s1 S1) (fun v s2 q => ?_) fun _ _ z => (z.sx S1).then (h3.l _)
  obtain ⟨x, σ2, ⟨a, C, dx, ks, vs, own, rfl, k2, k3, k4, k5, k6, k7⟩, j2, j3, S2⟩ := S1.ev q
  cases j2
  refine set_attr S2.frm.ok S2.frm.stays S2.sim k2 k3 k4 k5 k6 (h2.step j3.keep j3.dom) fun s3 a3 sim3 => ?_
  have S3 := S2.after a3 sim3
  exact ⟨.next, loc, _, m, k7, rfl, ((h3.trans j3).trans a3).l _, S3.ns, S3.sim, S3.loc⟩
end
end Mine
end

section
namespace Mine

noncomputable def getI : List Int → List V → Int → Option V
  | k :: ks, v :: vs, x => if k = x then some v else getI ks vs x
  | _, _, _ => none

theorem KS.keys {P : Params} {ks : List Str} : ∀ {es : List DictEntry}, KS P ks es → ∀ e ∈ es, ∃ k t, e.key = .str k t ∧ e.hash = PyData.keyHash P k ∧ Fit k := by
  induction ks with
  | nil => intro es h e he; cases h; cases he
  | cons k ks ih =>
    intro es h e he
    obtain ⟨e0, es, t, rfl, h1, h2, hf, h3⟩ := h
    rcases List.mem_cons.mp he with rfl | he
    · exact ⟨k, t, h1, h2, hf⟩
    · exact ih h3 e he
theorem KI.keys : ∀ {ks : List Int} {es : List DictEntry}, KI ks es → ∀ e ∈ es, ∃ k t, e.key = .int k t ∧ e.hash = hashInt k
  | [], _, h, e, he => by cases h; cases he
  | k :: ks, _, h, e, he => by
    obtain ⟨e0, es, t, rfl, h1, h2, h3⟩ := h
    rcases List.mem_cons.mp he with rfl | he
    · exact ⟨k, t, h1, h2⟩
    · exact KI.keys h3 e he
theorem KS.find {P : Params} {σ : Store} {h : Heap} (x : Str) {ks : List Str} : ∀ {vs : List V} {es : List DictEntry}, KS P ks es → RelVs P σ h vs (es.map (·.val)) →
    match getF ks vs x with
    | some u => ∃ v, (es.find? fun e => Value.isStrOf x e.key).map (·.val) = some v ∧ RelV P σ h u v
    | none => (es.find? fun e => Value.isStrOf x e.key).map (·.val) = none := by
  induction ks with
  | nil => intro vs es hk hv; cases hk; cases vs <;> exact rfl
  | cons k ks ih =>
    intro vs es hk hv
    obtain ⟨e, es, t, rfl, h1, h2, _, h3⟩ := hk
    cases vs with
    | nil => cases hv
    | cons u vs =>
      obtain ⟨w, ws, hw, r1, r2⟩ := hv
      injection hw with q1 q2
      subst q1 q2
      rw [List.find?_cons, h1]
      by_cases hx : k = x
      · subst hx
        rw [show getF (k :: ks) (u :: vs) k = some u from if_pos rfl, show Value.isStrOf k (.str k t) = true by simp [Value.isStrOf]]
        exact ⟨_, rfl, r1⟩
      · rw [show getF (k :: ks) (u :: vs) x = getF ks vs x from if_neg hx, show Value.isStrOf x (.str k t) = false by simpa [Value.isStrOf] using fun q => hx q]
        exact ih h3 r2
theorem KI.find {P : Params} {σ : Store} {h : Heap} (x : Int) {ks : List Int} : ∀ {vs : List V} {es : List DictEntry}, KI ks es → RelVs P σ h vs (es.map (·.val)) →
    match getI ks vs x with
    | some u => ∃ v, (es.find? fun e => Value.isInt x e.key).map (·.val) = some v ∧ RelV P σ h u v
    | none => (es.find? fun e => Value.isInt x e.key).map (·.val) = none := by
  induction ks with
  | nil => intro vs es hk hv; cases hk; cases vs <;> exact rfl
  | cons k ks ih =>
    intro vs es hk hv
    obtain ⟨e, es, t, rfl, h1, h2, h3⟩ := hk
    cases vs with
    | nil => cases hv
    | cons u vs =>
      obtain ⟨w, ws, hw, r1, r2⟩ := hv
      injection hw with q1 q2
      subst q1 q2
      rw [List.find?_cons, h1]
      by_cases hx : k = x
      · subst hx
        rw [show getI (k :: ks) (u :: vs) k = some u from if_pos rfl, show Value.isInt k (.int k t) = true by simp [Value.isInt]]
        exact ⟨_, rfl, r1⟩
      · rw [show getI (k :: ks) (u :: vs) x = getI ks vs x from if_neg hx, show Value.isInt x (.int k t) = false by simpa [Value.isInt] using fun q => hx q]
        exact ih h3 r2
section
variable {G : Gd} {md : Md} {A : Around} {env : Env} {m : Str → Option Value} {loc : Loc} {σ σ' : Store} {s s' : Shared} {X : Exn → Prop}

theorem sdc_map {ks : List Str} {vs : List V} {v : Value} (r : RelV G.P σ s.heap (.sdc ks vs) v) : ∃ a f, v = .ref a ∧ (a == sysModules) = false ∧ s.heap.MapOf (PySem.strKind G.prog G.w) a f ∧ ∀ x, match getF ks vs x with
    | some u => ∃ v, f x = some v ∧ RelV G.P σ s.heap u v
    | none => f x = none := by
  obtain ⟨a, es, n, rfl, ⟨hs, hy⟩, ho, hk, hv⟩ := r
  refine ⟨a, _, rfl, hy, ⟨_, es, n, ho, ⟨rfl, rfl, rfl⟩, rfl, fun e he => ?_, fun _ => rfl⟩, fun x => ?_⟩
  · obtain ⟨k, t, h1, h2, _⟩ := hk.keys e (Array.mem_toList_iff.mpr he)
    exact ⟨k, by rw [h1]; simp [PySem.strKind, Value.isStrOf], h2⟩
  · have := hk.find x hv
    unfold findBy
    rw [← Array.find?_toList]
    exact this
theorem idc_map {ks : List Int} {vs : List V} {v : Value} (r : RelV G.P σ s.heap (.idc ks vs) v) : ∃ a f, v = .ref a ∧ (a == sysModules) = false ∧ s.heap.MapOf (intKind G.prog G.w) a f ∧ ∀ x, match getI ks vs x with
    | some u => ∃ v, f x = some v ∧ RelV G.P σ s.heap u v
    | none => f x = none := by
  obtain ⟨a, es, n, rfl, ⟨hs, hy⟩, ho, hk, hv⟩ := r
  refine ⟨a, _, rfl, hy, ⟨_, es, n, ho, ⟨rfl, rfl, rfl⟩, rfl, fun e he => ?_, fun _ => rfl⟩, fun x => ?_⟩
  · obtain ⟨k, t, h1, h2⟩ := hk.keys e (Array.mem_toList_iff.mpr he)
    exact ⟨k, by rw [h1]; simp [intKind, Value.isInt], h2⟩
  · have := hk.find x hv
    unfold findBy
    rw [← Array.find?_toList]
    exact this

end
end Mine
end

section
namespace Mine

mutual
noncomputable def toPy : V → Option PyData
  | .none => some .none
  | .bool b => some (.bool b)
  | .int i => some (.int i)
  | .str s => some (.str s)
  | .tup l => (toPys l).map .tuple
  | .lst l => (toPys l).map .list
  | _ => none
noncomputable def toPys : List V → Option (List PyData)
  | [] => some []
  | x :: xs => (toPy x).bind fun d => (toPys xs).map (d :: ·)
end
theorem toPys_c {x : V} {xs : List V} : toPys (x :: xs) = (toPy x).bind fun d => (toPys xs).map (d :: ·) := rfl
theorem toPy_tup {l : List V} : toPy (.tup l) = (toPys l).map .tuple := rfl

mutual
theorem reads_of {P : Params} {σ : Store} {h : Heap} : ∀ {x : V} {v : Value} {d : PyData}, RelV P σ h x v → toPy x = some d → ∃ as, Reads h v d as ∧ PyData.canLay0 d = true
  | .none, _, _, r, e => by cases r; cases e; exact ⟨_, .none, rfl⟩
  | .bool b, _, _, r, e => by cases r; cases e; exact ⟨_, .bool b, rfl⟩
  | .int i, _, _, r, e => by obtain ⟨t, rfl⟩ := r; cases e; exact ⟨_, .int i t, rfl⟩
  | .str s, _, _, r, e => by obtain ⟨hf, t, rfl⟩ := r; cases e; exact ⟨_, .str s t, hf.1⟩
  | .tup l, _, _, r, e => by
    obtain ⟨a, vs, n, rfl, _, ho, hr⟩ := r
    obtain ⟨ds, hds, rfl⟩ := Option.map_eq_some_iff.mp e
    obtain ⟨as, ra, hl⟩ := readsAll_of hr hds
    exact ⟨_, .tuple ho rfl rfl ra, hl⟩
  | .lst l, _, _, r, e => by
    obtain ⟨a, vs, n, rfl, _, ho, hr⟩ := r
    obtain ⟨ds, hds, rfl⟩ := Option.map_eq_some_iff.mp e
    obtain ⟨as, ra, hl⟩ := readsAll_of hr hds
    exact ⟨_, .list ho rfl rfl ra, hl⟩
  | .sdc .., _, _, _, e => by cases e
  | .idc .., _, _, _, e => by cases e
  | .obj .., _, _, _, e => by cases e
  | .xc .., _, _, _, e => by cases e
  | .rng _, _, _, _, e => by cases e
  | .ref _, _, _, _, e => by cases e
  | .ty _, _, _, _, e => by cases e
  | .bi _, _, _, _, e => by cases e
theorem readsAll_of {P : Params} {σ : Store} {h : Heap} : ∀ {l : List V} {vs : List Value} {ds : List PyData}, RelVs P σ h l vs → toPys l = some ds → ∃ as, ReadsAll h vs ds as ∧ PyData.canLayAll0 ds = true
  | [], _, _, r, e => by cases r; cases e; exact ⟨_, .nil, rfl⟩
  | x :: xs, _, _, r, e => by
    obtain ⟨v, vs, rfl, r1, r2⟩ := r
    obtain ⟨d, h1, e⟩ := Option.bind_eq_some_iff.mp (toPys_c.symm.trans e)
    obtain ⟨ds, h2, rfl⟩ := Option.map_eq_some_iff.mp e
    obtain ⟨as, ra, l1⟩ := reads_of r1 h1
    obtain ⟨bs, rb, l2⟩ := readsAll_of r2 h2
    exact ⟨_, .cons ra rb, by rw [PyData.canLayAll0, l1, l2]; rfl⟩
end

theorem lk_not {σ : Store} {x : V} (hl : ¬∃ l, lk σ x = .lst l) : lk σ x = x := by
  cases x with
  | ref a =>
    show (match σ a with
      | some (.lst l) => V.lst l
      | _ => .ref a) = .ref a
    have hl' : ¬∃ l, (match σ a with
      | some (.lst l) => V.lst l
      | _ => .ref a) = .lst l := hl
    revert hl'
    split
    · intro h; exact absurd ⟨_, rfl⟩ h
    · intro _; rfl
  | _ => rfl
/-- the data that a value is, the store's list at its top -/
noncomputable def pyOf (σ : Store) (x : V) : Option PyData := toPy (lk σ x)
theorem reads_see {P : Params} {σ : Store} {h : Heap} {x : V} {v : Value} {d : PyData} (sim : Sim P σ h) (r : RelV P σ h x v) (e : pyOf σ x = some d) : ∃ as, Reads h v d as ∧ PyData.canLay0 d = true := by
  unfold pyOf at e
  by_cases hl : ∃ l, lk σ x = .lst l
  · obtain ⟨l, hl⟩ := hl
    obtain ⟨a, vs, n, rfl, ho, hr⟩ := see_lst sim r hl
    rw [hl] at e
    obtain ⟨ds, hds, rfl⟩ := Option.map_eq_some_iff.mp e
    obtain ⟨as, ra, hc⟩ := readsAll_of hr hds
    exact ⟨_, .list ho rfl rfl ra, hc⟩
  · have : lk σ x = x := lk_not hl
    rw [this] at e
    exact reads_of r e

/-- «==», where the proofs tell it -/
noncomputable def eqV (σ : Store) (a b : V) : Option Bool := match pyOf σ a, pyOf σ b with
  | some x, some y => if x.depth ≤ 64 ∧ y.depth ≤ 64 then some (PyData.eqv x y) else none
  | _, _ => none
noncomputable def strItems : List V → Option (List Str)
  | [] => some []
  | y :: l => (asStr y).bind fun s => (strItems l).map (s :: ·)
noncomputable def anyS (a : V) (l : List V) : Option Bool := (asStr a).bind fun x => (strItems l).map fun ss => ss.any (· == x)
/-- «in», where the proofs tell it: a text in a list or a tuple of texts, or in a text -/
noncomputable def inW (a : V) : V → Option Bool
  | .lst l => anyS a l
  | .tup l => anyS a l
  | .sdc ks vs => (asStr a).map fun x => (getF ks vs x).isSome
  | .idc ks vs => (asInt a).map fun x => (getI ks vs x).isSome
  | .str y => (asStr a).map fun x => !(Builtin.Str.occurrences y x 0 y.length 1).isEmpty
  | _ => none
noncomputable def inV (σ : Store) (a b : V) : Option Bool := inW a (lk σ b)
noncomputable def isNoneV : V → Bool
  | .none => true
  | _ => false
theorem isNone_eq {P : Params} {σ : Store} {h : Heap} {a : V} {va : Value} (ra : RelV P σ h a va) : (va == Value.none) = isNoneV a := by
  cases a with
  | none => cases ra; rfl
  | bool _ => cases ra; rfl
  | int _ => obtain ⟨t, rfl⟩ := ra; rfl
  | str _ => obtain ⟨_, t, rfl⟩ := ra; rfl
  | tup _ => obtain ⟨_, _, _, rfl, _⟩ := ra; rfl
  | lst _ => obtain ⟨_, _, _, rfl, _⟩ := ra; rfl
  | sdc _ _ => obtain ⟨_, _, _, rfl, _⟩ := ra; rfl
  | idc _ _ => obtain ⟨_, _, _, rfl, _⟩ := ra; rfl
  | obj _ _ _ => obtain ⟨_, _, _, _, rfl, _⟩ := ra; rfl
  | xc _ _ _ => obtain ⟨_, _, _, _, _, rfl, _⟩ := ra; rfl
  | rng _ => obtain ⟨_, _, _, _, rfl, _⟩ := ra; rfl
  | ref _ => cases ra; rfl
  | ty _ => cases ra; rfl
  | bi _ => cases ra; rfl
noncomputable def ordV (f : Int → Int → Bool) (a b : V) : Option Bool := (asInt a).bind fun i => (asInt b).map (f i)
noncomputable def leS (a b : Str) : Bool := !decide (b.cps.toList < a.cps.toList)
noncomputable def leV (a b : V) : Option Bool := match asStr a with
  | some x => (asStr b).map (leS x)
  | none => ordV (fun i j => decide (i ≤ j)) a b
noncomputable def cmpV (σ : Store) : CmpOp → V → V → Option Bool
  | .Eq, a, b => eqV σ a b
  | .NotEq, a, b => (eqV σ a b).map (!·)
  | .Lt, a, b => ordV (fun i j => decide (i < j)) a b
  | .LtE, a, b => leV a b
  | .Gt, a, b => ordV (fun i j => decide (j < i)) a b
  | .GtE, a, b => ordV (fun i j => decide (j ≤ i)) a b
  | .Is, a, b => if isNoneV b = true then some (isNoneV a) else none
  | .IsNot, a, b => if isNoneV b = true then some (!isNoneV a) else none
  | .In, a, b => inV σ a b
  | .NotIn, a, b => (inV σ a b).map (!·)

theorem ordV_eq {f : Int → Int → Bool} {a b : V} {r : Bool} (e : ordV f a b = some r) : ∃ i j, a = .int i ∧ b = .int j ∧ f i j = r := by
  obtain ⟨i, h1, h2⟩ := Option.bind_eq_some_iff.mp e
  obtain ⟨j, h3, h4⟩ := Option.map_eq_some_iff.mp h2
  exact ⟨i, j, asInt_eq h1, asInt_eq h3, h4⟩
theorem isNone_is {b : V} (h : isNoneV b = true) : b = .none := by cases b <;> first | rfl | cases h
theorem strItems_cons {y : V} {l : List V} {ss : List Str} (h : strItems (y :: l) = some ss) : ∃ s r, y = .str s ∧ strItems l = some r ∧ ss = s :: r := by
  obtain ⟨s, h1, h2⟩ := Option.bind_eq_some_iff.mp h
  obtain ⟨r, h3, h4⟩ := Option.map_eq_some_iff.mp h2
  exact ⟨s, r, asStr_eq h1, h3, h4.symm⟩
theorem relVs_strs {P : Params} {σ : Store} {h : Heap} {l : List V} : ∀ {vs : List Value} {ss : List Str}, RelVs P σ h l vs → strItems l = some ss → (∀ v ∈ vs, ∃ s t, v = .str s t) ∧ ∀ x : Str, vs.any (fun v => v.isStr x) = ss.any (· == x) := by
  induction l with
  | nil => intro vs ss r e; cases r; cases e; exact ⟨fun _ h => (nomatch h), fun _ => rfl⟩
  | cons y l ih =>
    intro vs ss r e
    obtain ⟨v, vs, rfl, r1, r2⟩ := r
    obtain ⟨s, ss, rfl, hs, rfl⟩ := strItems_cons e
    obtain ⟨hf, t, rfl⟩ := r1
    obtain ⟨h1, h2⟩ := ih r2 hs
    refine ⟨fun v hv => ?_, fun x => ?_⟩
    · rcases List.mem_cons.mp hv with rfl | hv
      · exact ⟨s, t, rfl⟩
      · exact h1 v hv
    · rw [List.any_cons, List.any_cons, h2 x]; rfl
section
variable {G : Gd} {md : Md} {A : Around} {env : Env} {m : Str → Option Value} {loc : Loc} {σ σ' : Store} {s s' : Shared} {X : Exn → Prop}

theorem units_of (S : St G md A env m loc σ s) : A.units + 200 ≤ cLine := Nat.le_trans (Nat.add_le_add_right (Nat.le_add_right _ _) _) S.frm.units

theorem eq_reads {a b : V} {va vb : Value} {r : Bool} (sim : Sim G.P σ s.heap) (ra : RelV G.P σ s.heap a va) (rb : RelV G.P σ s.heap b vb) (e : eqV σ a b = some r) :
    ∃ da db as bs, Reads s.heap va da as ∧ Reads s.heap vb db bs ∧ SeqAt.shaped da = true ∧ SeqAt.shaped db = true ∧ r = PyData.eqv da db := by
  unfold eqV at e
  split at e
  · rename_i x y hx hy
    split at e
    · rename_i hd
      cases e
      obtain ⟨as, h1, h2⟩ := reads_see sim ra hx
      obtain ⟨bs, h3, h4⟩ := reads_see sim rb hy
      exact ⟨x, y, as, bs, h1, h3, by unfold SeqAt.shaped; rw [h2, decide_eq_true hd.1]; rfl, by unfold SeqAt.shaped; rw [h4, decide_eq_true hd.2]; rfl, rfl⟩
    · cases e
  · cases e
theorem in_seq {P : Params} {σ : Store} {h : Heap} {x : Str} {t : Tok} {vs : Array Value} {l : List V} {ss : List Str} (hr : RelVs P σ h l vs.toList) (hs : strItems l = some ss) :
    (∀ y, y ∈ vs → SeqAt.EqAt A.in1 s y (.str x t) (y.isStr x)) ∧ vs.any (fun y => y.isStr x) = ss.any (· == x) := by
  obtain ⟨h1, h2⟩ := relVs_strs hr hs
  refine ⟨fun y hy => ?_, by rw [← Array.any_toList]; exact h2 x⟩
  obtain ⟨s1, t1, rfl⟩ := h1 y (Array.mem_toList_iff.mpr hy)
  exact SeqAt.EqAt.str_str s1 t1 x t
theorem lk_tup {b : V} {l : List V} (h : lk σ b = .tup l) : b = .tup l := by
  cases b <;> simp only [lk] at h <;> try exact h
  split at h <;> cases h
theorem lk_str {b : V} {l : Str} (h : lk σ b = .str l) : b = .str l := by
  cases b <;> simp only [lk] at h <;> try exact h
  split at h <;> cases h
theorem lk_sdc {b : V} {ks : List Str} {vs : List V} (h : lk σ b = .sdc ks vs) : b = .sdc ks vs := by
  cases b <;> simp only [lk] at h <;> try exact h
  split at h <;> cases h
theorem lk_idc {b : V} {ks : List Int} {vs : List V} (h : lk σ b = .idc ks vs) : b = .idc ks vs := by
  cases b <;> simp only [lk] at h <;> try exact h
  split at h <;> cases h
theorem in_sd {a : V} {ks : List Str} {vs : List V} {va vb : Value} {r : Bool} {Qv : Value → Shared → Prop} {E : Value → Shared → Prop} (ra : RelV G.P σ s.heap a va) (rb : RelV G.P σ s.heap (.sdc ks vs) vb) (e : inW a (.sdc ks vs) = some r) :
    ((∀ t, Qv (.bool r) { s with toks := t }) → wpAny G.M A (compareOp .In va vb) Qv E s) ∧ ((∀ t, Qv (.bool (!r)) { s with toks := t }) → wpAny G.M A (compareOp .NotIn va vb) Qv E s) := by
  obtain ⟨x, hx, rfl⟩ := Option.map_eq_some_iff.mp e
  obtain rfl := asStr_eq hx
  obtain ⟨hf, t, rfl⟩ := ra
  obtain ⟨a, f, rfl, hy, hm, hx⟩ := sdc_map rb
  have e : (f x).isSome = (getF ks vs x).isSome := by
    have := hx x
    cases hg : getF ks vs x with
    | some u => rw [hg] at this; obtain ⟨v, hv, _⟩ := this; rw [hv]; rfl
    | none => rw [hg] at this; rw [show f x = none from this]; rfl
  have hkey : (PySem.strKind G.prog G.w).is x (.str x t) = true := by simp [PySem.strKind, Value.isStrOf]
  exact ⟨fun hq => wpAny_in_of hkey hy hm (by rw [e]; exact hq _), fun hq => wpAny_notIn_of hkey hy hm (by rw [e]; exact hq _)⟩
theorem in_id {a : V} {ks : List Int} {vs : List V} {va vb : Value} {r : Bool} {Qv : Value → Shared → Prop} {E : Value → Shared → Prop} (ra : RelV G.P σ s.heap a va) (rb : RelV G.P σ s.heap (.idc ks vs) vb) (e : inW a (.idc ks vs) = some r) :
    ((∀ t, Qv (.bool r) { s with toks := t }) → wpAny G.M A (compareOp .In va vb) Qv E s) ∧ ((∀ t, Qv (.bool (!r)) { s with toks := t }) → wpAny G.M A (compareOp .NotIn va vb) Qv E s) := by
  obtain ⟨x, hx, rfl⟩ := Option.map_eq_some_iff.mp e
  obtain rfl := asInt_eq hx
  obtain ⟨t, rfl⟩ := ra
  obtain ⟨a, f, rfl, hy, hm, hx⟩ := idc_map rb
  have e : (f x).isSome = (getI ks vs x).isSome := by
    have := hx x
    cases hg : getI ks vs x with
    | some u => rw [hg] at this; obtain ⟨v, hv, _⟩ := this; rw [hv]; rfl
    | none => rw [hg] at this; rw [show f x = none from this]; rfl
  have hkey : (PySem.intKind G.prog G.w).is x (.int x t) = true := by simp [PySem.intKind, Value.isInt]
  exact ⟨fun hq => wpAny_in_of hkey hy hm (by rw [e]; exact hq _), fun hq => wpAny_notIn_of hkey hy hm (by rw [e]; exact hq _)⟩
theorem anyS_eq {a : V} {l : List V} {r : Bool} (e : anyS a l = some r) : ∃ x ss, a = .str x ∧ strItems l = some ss ∧ ss.any (· == x) = r := by
  obtain ⟨x, h1, h2⟩ := Option.bind_eq_some_iff.mp e
  obtain ⟨ss, h3, h4⟩ := Option.map_eq_some_iff.mp h2
  exact ⟨x, ss, asStr_eq h1, h3, h4⟩
theorem in_sound {a b : V} {va vb : Value} {r : Bool} {Qv : Value → Shared → Prop} {E : Value → Shared → Prop} (sim : Sim G.P σ s.heap) (ra : RelV G.P σ s.heap a va) (rb : RelV G.P σ s.heap b vb) (e : inV σ a b = some r) :
    ((∀ t, Qv (.bool r) { s with toks := t }) → wpAny G.M A (compareOp .In va vb) Qv E s) ∧ ((∀ t, Qv (.bool (!r)) { s with toks := t }) → wpAny G.M A (compareOp .NotIn va vb) Qv E s) := by
  unfold inV at e
  generalize hb : lk σ b = y at e
  cases y with
  | lst l =>
    obtain ⟨x, ss, rfl, hs, rfl⟩ := anyS_eq e
    obtain ⟨hf, t, rfl⟩ := ra
    obtain ⟨c, vs, n, rfl, ho, hr⟩ := see_lst sim rb hb
    obtain ⟨k1, k2⟩ := in_seq (A := A) (s := s) (x := x) (t := t) hr hs
    exact ⟨fun hq => SeqAt.in_listAt (fun y => y.isStr x) ⟨_, ho, rfl, n, rfl⟩ k1 (by rw [k2]; exact hq s.toks), fun hq => SeqAt.notIn_listAt (fun y => y.isStr x) ⟨_, ho, rfl, n, rfl⟩ k1 (by rw [k2]; exact hq s.toks)⟩
  | tup l =>
    obtain ⟨x, ss, rfl, hs, rfl⟩ := anyS_eq e
    obtain ⟨hf, t, rfl⟩ := ra
    obtain rfl := lk_tup hb
    obtain ⟨c, vs, n, rfl, _, ho, hr⟩ := rb
    obtain ⟨k1, k2⟩ := in_seq (A := A) (s := s) (x := x) (t := t) hr hs
    exact ⟨fun hq => SeqAt.in_tupleAt (fun y => y.isStr x) ⟨_, ho, rfl, n, rfl⟩ k1 (by rw [k2]; exact hq s.toks), fun hq => SeqAt.notIn_tupleAt (fun y => y.isStr x) ⟨_, ho, rfl, n, rfl⟩ k1 (by rw [k2]; exact hq s.toks)⟩
  | sdc ks vs => exact in_sd ra (lk_sdc hb ▸ rb) e
  | idc ks vs => exact in_id ra (lk_idc hb ▸ rb) e
  | str y =>
    obtain ⟨x, hx, rfl⟩ := Option.map_eq_some_iff.mp e
    obtain rfl := asStr_eq hx
    obtain ⟨hf, t, rfl⟩ := ra
    obtain rfl := lk_str hb
    obtain ⟨hf', t', rfl⟩ := rb
    exact ⟨fun hq => PyProof.Rows.in_str (hq s.toks), fun hq => PyProof.Rows.notIn_str (hq s.toks)⟩
  | _ => cases e

theorem cmp_sound {op : CmpOp} {a b : V} {va vb : Value} {r : Bool} {Qv : Value → Shared → Prop} {E : Value → Shared → Prop} (hu : A.units + 200 ≤ cLine) (sim : Sim G.P σ s.heap) (ra : RelV G.P σ s.heap a va) (rb : RelV G.P σ s.heap b vb)
    (e : cmpV σ op a b = some r) (h' : ∀ t, Qv (.bool r) { s with toks := t }) : wpAny G.M A (compareOp op va vb) Qv E s := by
  have hu64 : A.units + 64 < cLine := by lia
  have h : Qv (.bool r) s := h' s.toks
  cases op with
  | Eq =>
    obtain ⟨da, db, as, bs, h1, h2, h3, h4, rfl⟩ := eq_reads sim ra rb e
    exact SeqAt.compareEq_shaped h1 h2 h3 h4 hu64 h
  | NotEq =>
    obtain ⟨r', e', rfl⟩ := Option.map_eq_some_iff.mp e
    obtain ⟨da, db, as, bs, h1, h2, h3, h4, rfl⟩ := eq_reads sim ra rb e'
    exact SeqAt.compareNe_shaped h1 h2 h3 h4 hu64 h
  | In => exact (in_sound sim ra rb e).1 h'
  | NotIn =>
    obtain ⟨r', e', rfl⟩ := Option.map_eq_some_iff.mp e
    exact (in_sound sim ra rb e').2 h'
  | Is =>
    by_cases hb : isNoneV b = true
    · obtain rfl := isNone_is hb
      cases rb
      cases e
      refine is_none_gen ?_
      rw [isNone_eq ra]; exact h
    · exact nomatch (if_neg hb).symm.trans e
  | IsNot =>
    by_cases hb : isNoneV b = true
    · obtain rfl := isNone_is hb
      cases rb
      cases e
      refine isNot_none ?_
      rw [isNone_eq ra]; exact h
    · exact nomatch (if_neg hb).symm.trans e
  | Lt =>
    obtain ⟨i, j, rfl, rfl, rfl⟩ := ordV_eq e
    obtain ⟨t, rfl⟩ := ra; obtain ⟨u, rfl⟩ := rb
    exact PyProof.Rows.lt_int h
  | LtE =>
    replace e : leV a b = some r := e
    unfold leV at e
    cases hx : asStr a with
    | some x =>
      rw [hx] at e
      obtain ⟨y, hy, rfl⟩ := Option.map_eq_some_iff.mp e
      obtain rfl := asStr_eq hx
      obtain rfl := asStr_eq hy
      obtain ⟨_, t, rfl⟩ := ra; obtain ⟨_, u, rfl⟩ := rb
      exact P.le_str h
    | none =>
      rw [hx] at e
      obtain ⟨i, j, rfl, rfl, rfl⟩ := ordV_eq e
      obtain ⟨t, rfl⟩ := ra; obtain ⟨u, rfl⟩ := rb
      exact PyProof.Rows.le_int h
  | Gt =>
    obtain ⟨i, j, rfl, rfl, rfl⟩ := ordV_eq e
    obtain ⟨t, rfl⟩ := ra; obtain ⟨u, rfl⟩ := rb
    exact PyProof.Rows.gt_int h
  | GtE =>
    obtain ⟨i, j, rfl, rfl, rfl⟩ := ordV_eq e
    obtain ⟨t, rfl⟩ := ra; obtain ⟨u, rfl⟩ := rb
    exact PyProof.Rows.ge_int h
end
end Mine
end

section
namespace Mine

section
variable {G : Gd} {md : Md} {A : Around} {env : Env} {m : Str → Option Value} {loc : Loc} {σ σ' : Store} {s s' : Shared} {X : Exn → Prop}

theorem EQ.at {Q : V → Store → Prop} {r : V} {v : Value} (sim : Sim G.P σ s.heap) (q : Q r σ) (h : RelV G.P σ s.heap r v) : EQ G σ Q s v s := ⟨r, σ, q, h, .refl .., sim⟩
theorem TQ.then {σ₁ : Store} {s₁ : Shared} {Q : Bool → Store → Prop} {v : Bool} (a : After σ σ₁ s s₁) (q : TQ G σ₁ Q s₁ v s') : TQ G σ Q s v s' := by
  obtain ⟨σ', h1, h2, h3⟩ := q
  exact ⟨σ', h1, a.trans h2, h3⟩
theorem truthy_b {b : Bool} {Q : Bool → Shared → Prop} {E : Value → Shared → Prop} (h : Q b s) : wpAny G.M A (truthy (.bool b)) Q E s := wpAny_truthy_bool h

/-- two operands -/
theorem two {l r : Expr} {Qb : V → V → Store → Prop} {K : Value → Value → Shared → Prop} (S : St G md A env m loc σ s)
    (h : EvW G md l loc σ (fun a σ1 => EvW G md r loc σ1 (fun b σ2 => Qb a b σ2) X) X)
    (k : ∀ a b va vb σ2 s2, Qb a b σ2 → After σ σ2 s s2 → St G md A env m loc σ2 s2 → RelV G.P σ2 s2.heap a va → RelV G.P σ2 s2.heap b vb → K va vb s2) :
    wpAny G.M A (eval l env) (fun va s1 => wpAny G.M A (eval r env) (fun vb s2 => K va vb s2) (EX G σ X s) s1) (EX G σ X s) s := by
  refine wpAny_mono (h A env m s S) (fun va s1 q => ?_) fun _ _ z => z
  obtain ⟨a, σ1, h1, h2, h3, S1⟩ := S.ev q
  refine wpAny_mono (h1 A env m s1 S1) (fun vb s2 q => ?_) fun _ _ z => z.then h3
  obtain ⟨b, σ2, k1, k2, k3, S2⟩ := S1.ev q
  exact k a b va vb σ2 s2 k1 (h3.trans k3) S2 (h2.step k3.keep k3.dom) k2

inductive CmpR (op : CmpOp) (a : V) (Q : Bool → Store → Prop) (b : V) (σ : Store) : Prop | mk (c : Bool) (h : cmpV σ op a b = some c) (q : Q c σ)
abbrev CmpQ (G : Gd) (md : Md) (r : Expr) (loc : Loc) (op : CmpOp) (Q : Bool → Store → Prop) (X : Exn → Prop) : V → Store → Prop := fun a σ1 => EvW G md r loc σ1 (CmpR op a Q) X
abbrev BoolQ (Q : V → Store → Prop) : Bool → Store → Prop := fun c σ => Q (.bool c) σ
abbrev TsIf (G : Gd) (md : Md) (e : Expr) (loc : Loc) (Q : Bool → Store → Prop) (X : Exn → Prop) (c : Bool) : Bool → Store → Prop := fun b σ1 => if b = c then TsW G md e loc σ1 Q X else Q b σ1
abbrev AndQ (G : Gd) (md : Md) (rest : List Expr) (pos : Pos) (loc : Loc) (Q : Bool → Store → Prop) (X : Exn → Prop) : Bool → Store → Prop := fun b σ1 => if b = true then TsW G md (.BoolOp .And rest pos) loc σ1 Q X else Q false σ1
abbrev OrQ (G : Gd) (md : Md) (rest : List Expr) (pos : Pos) (loc : Loc) (Q : Bool → Store → Prop) (X : Exn → Prop) : Bool → Store → Prop := fun b σ1 => if b = true then Q true σ1 else TsW G md (.BoolOp .Or rest pos) loc σ1 Q X
abbrev NotQ (Q : Bool → Store → Prop) : Bool → Store → Prop := fun b σ1 => Q (!b) σ1
abbrev IfxQ (G : Gd) (md : Md) (body orelse : Expr) (loc : Loc) (Q : V → Store → Prop) (X : Exn → Prop) : Bool → Store → Prop := fun b σ1 => if b = true then EvW G md body loc σ1 Q X else EvW G md orelse loc σ1 Q X
inductive TruR (Q : Bool → Store → Prop) (v : V) (σ : Store) : Prop | mk (b : Bool) (h : v = .bool b) (q : Q b σ)
abbrev BNotQ (Q : V → Store → Prop) : Bool → Store → Prop := fun b σ1 => Q (.bool !b) σ1
theorem ev_cmp {l r : Expr} {op : CmpOp} {pos : Pos} {Q : V → Store → Prop} (h : EvW G md l loc σ (CmpQ G md r loc op (BoolQ Q) X) X) (hm : behindInMarks op r = false := by with_unfolding_all rfl) :
    EvW G md (.Compare l [op] [r] pos) loc σ Q X := fun A env m s S => by
  refine wpAny_Compare1 (two S h fun a b va vb σ2 s2 q aft S2 ra rb => ?_) hm
  obtain ⟨c, hc, hq⟩ := q
  exact cmp_sound (units_of S2) S2.sim ra rb hc fun t => ⟨_, σ2, hq, rfl, aft.trans (.tok ..), S2.sim⟩
theorem ts_cmp {l r : Expr} {op : CmpOp} {pos : Pos} {Q : Bool → Store → Prop} (h : EvW G md l loc σ (CmpQ G md r loc op Q X) X) (hm : behindInMarks op r = false := by with_unfolding_all rfl) :
    TsW G md (.Compare l [op] [r] pos) loc σ Q X := fun A env m s S => by
  refine wpAny_isTrue_Compare1 (two S h fun a b va vb σ2 s2 q aft S2 ra rb => ?_) hm
  obtain ⟨c, hc, hq⟩ := q
  exact cmp_sound (units_of S2) S2.sim ra rb hc fun t => truthy_b ⟨σ2, hq, aft.trans (.tok ..), S2.sim⟩
/-- a chain of two: «a op b op c» -/
abbrev LnkQ (G : Gd) (md : Md) (t : Expr) (loc : Loc) (op' : CmpOp) (Q : Bool → Store → Prop) (X : Exn → Prop) (b : V) : Bool → Store → Prop := fun c σ2 => if c = true then EvW G md t loc σ2 (CmpR op' b Q) X else Q false σ2
abbrev Lnk2 (G : Gd) (md : Md) (t : Expr) (loc : Loc) (op op' : CmpOp) (Q : Bool → Store → Prop) (X : Exn → Prop) (a : V) : V → Store → Prop := fun b σ2 => CmpR op a (LnkQ G md t loc op' Q X b) b σ2
abbrev Lnk (G : Gd) (md : Md) (r t : Expr) (loc : Loc) (op op' : CmpOp) (Q : Bool → Store → Prop) (X : Exn → Prop) : V → Store → Prop := fun a σ1 => EvW G md r loc σ1 (Lnk2 G md t loc op op' Q X a) X
theorem ts_cmp2 {l r t : Expr} {op op' : CmpOp} {pos : Pos} {Q : Bool → Store → Prop}
    (h : EvW G md l loc σ (Lnk G md r t loc op op' Q X) X)
    (hm : lastMarks [op, op'] [r, t] = false := by with_unfolding_all rfl) : TsW G md (.Compare l [op, op'] [r, t] pos) loc σ Q X := fun A env m s S => by
  refine isTrue_chain (wpAny_mono (h A env m s S) (fun va s1 q => ?_) fun _ _ z => z) hm
  obtain ⟨a, σ1, h1, h2, h3, S1⟩ := S.ev q
  refine test_link (wpAny_mono (h1 A env m s1 S1) (fun vb s2 q => ?_) fun _ _ z => z.then h3)
  obtain ⟨b, σ2, ⟨c, hc, hq⟩, k2, k3, S2⟩ := S1.ev q
  refine cmp_sound (units_of S2) S2.sim (h2.step k3.keep k3.dom) k2 hc fun t => truthy_b ?_
  have ak : After σ σ2 s { s2 with toks := t } := (h3.trans k3).trans (.tok ..)
  cases c
  · exact ⟨σ2, hq, ak, S2.sim⟩
  · refine test_last (wpAny_mono (hq A env m _ (S2.tok t)) (fun vd s3 q => ?_) fun _ _ z => z.then ak)
    obtain ⟨d, σ3, ⟨c', hc', hq'⟩, j2, j3, S3⟩ := (S2.tok t).ev q
    exact cmp_sound (units_of S3) S3.sim (RelV.step (h := s2.heap) k2 j3.keep j3.dom) j2 hc' fun t => truthy_b ⟨σ3, hq', (ak.trans j3).trans (.tok ..), S3.sim⟩
theorem ts_not {e : Expr} {pos : Pos} {Q : Bool → Store → Prop} (h : TsW G md e loc σ (NotQ Q) X) : TsW G md (.UnaryOp .Not e pos) loc σ Q X := fun A env m s S =>
  isTrue_not (wpAny_mono (h A env m s S) (fun _ _ ⟨σ', q, a, b⟩ => ⟨σ', q, a, b⟩) fun _ _ z => z)
theorem ts_and_nil {pos : Pos} {Q : Bool → Store → Prop} (h : Q true σ) : TsW G md (.BoolOp .And [] pos) loc σ Q X := fun A env m s S => isTrue_and_nil ⟨σ, h, .refl .., S.sim⟩
theorem ts_or_nil {pos : Pos} {Q : Bool → Store → Prop} (h : Q false σ) : TsW G md (.BoolOp .Or [] pos) loc σ Q X := fun A env m s S => isTrue_or_nil ⟨σ, h, .refl .., S.sim⟩
theorem ts_and {x : Expr} {rest : List Expr} {pos : Pos} {Q : Bool → Store → Prop} (h : TsW G md x loc σ (AndQ G md rest pos loc Q X) X) : TsW G md (.BoolOp .And (x :: rest) pos) loc σ Q X := fun A env m s S => by
  refine isTrue_and (wpAny_mono (h A env m s S) (fun b s1 q => ?_) fun _ _ z => z)
  obtain ⟨σ1, h1, h2, h3⟩ := q
  have S1 := S.after h2 h3
  cases b
  · exact ⟨σ1, h1, h2, h3⟩
  · exact wpAny_mono (h1 A env m s1 S1) (fun _ _ z => z.then h2) fun _ _ z => z.then h2
theorem ts_or {x : Expr} {rest : List Expr} {pos : Pos} {Q : Bool → Store → Prop} (h : TsW G md x loc σ (OrQ G md rest pos loc Q X) X) : TsW G md (.BoolOp .Or (x :: rest) pos) loc σ Q X := fun A env m s S => by
  refine isTrue_or (wpAny_mono (h A env m s S) (fun b s1 q => ?_) fun _ _ z => z)
  obtain ⟨σ1, h1, h2, h3⟩ := q
  have S1 := S.after h2 h3
  cases b
  · exact wpAny_mono (h1 A env m s1 S1) (fun _ _ z => z.then h2) fun _ _ z => z.then h2
  · exact ⟨σ1, h1, h2, h3⟩
theorem ev_ifexp {test body orelse : Expr} {pos : Pos} {Q : V → Store → Prop} (h : TsW G md test loc σ (IfxQ G md body orelse loc Q X) X) : EvW G md (.IfExp test body orelse pos) loc σ Q X := fun A env m s S => by
  refine IfExp_ (wpAny_mono (h A env m s S) (fun b s1 q => ?_) fun _ _ z => z)
  obtain ⟨σ1, h1, h2, h3⟩ := q
  have S1 := S.after h2 h3
  cases b <;> exact wpAny_mono (h1 A env m s1 S1) (fun _ _ z => z.then h2) fun _ _ z => z.then h2
/-- a test of a value that is a truth -/
theorem ts_plain {e : Expr} {Q : Bool → Store → Prop} (h : EvW G md e loc σ (TruR Q) X) (he : ∀ env whole, isTrue e env whole = (do let v ← whole; standAt e.pos; holding [v] (truthy v)) := by intro _ _; rfl) : TsW G md e loc σ Q X := fun A env m s S => by
  refine isTrue_plain (wpAny_mono (h A env m s S) (fun v s1 q => ?_) fun _ _ z => z) (he _ _)
  obtain ⟨r, σ1, ⟨b, rfl, hq⟩, h2, h3, h4⟩ := q
  cases h2
  exact truthy_b ⟨σ1, hq, h3, h4⟩
theorem ev_not {e : Expr} {pos : Pos} {Q : V → Store → Prop} (h : EvW G md e loc σ (TruR (BNotQ Q)) X) : EvW G md (.UnaryOp .Not e pos) loc σ Q X := fun A env m s S => by
  refine UnaryOp_ (wpAny_mono (h A env m s S) (fun v s1 q => ?_) fun _ _ z => z)
  obtain ⟨r, σ1, ⟨b, rfl, hq⟩, h2, h3, h4⟩ := q
  cases h2
  exact not_of (truthy_b ⟨_, σ1, hq, rfl, h3, h4⟩)
theorem ev_bool_one {op : BoolOp} {e : Expr} {pos : Pos} {Q : V → Store → Prop} (h : EvW G md e loc σ Q X) : EvW G md (.BoolOp op [e] pos) loc σ Q X := fun A env m s S => BoolOp_one (h A env m s S)
inductive TruE (Q1 : Bool → Store → Prop) (v : V) (σ1 : Store) : Prop | mk (b : Bool) (h : v = .bool b) (q : Q1 b σ1)
abbrev EAndQ (G : Gd) (md : Md) (e₂ : Expr) (rest : List Expr) (pos : Pos) (loc : Loc) (Q : V → Store → Prop) (X : Exn → Prop) : Bool → Store → Prop := fun b σ1 => if b = true then EvW G md (.BoolOp .And (e₂ :: rest) pos) loc σ1 Q X else Q (.bool false) σ1
abbrev EOrQ (G : Gd) (md : Md) (e₂ : Expr) (rest : List Expr) (pos : Pos) (loc : Loc) (Q : V → Store → Prop) (X : Exn → Prop) : Bool → Store → Prop := fun b σ1 => if b = true then Q (.bool true) σ1 else EvW G md (.BoolOp .Or (e₂ :: rest) pos) loc σ1 Q X
theorem ev_and {e₁ e₂ : Expr} {rest : List Expr} {pos : Pos} {Q : V → Store → Prop} (h : EvW G md e₁ loc σ (TruE (EAndQ G md e₂ rest pos loc Q X)) X) :
    EvW G md (.BoolOp .And (e₁ :: e₂ :: rest) pos) loc σ Q X := fun A env m s S => by
  refine BoolOp_and (wpAny_mono (h A env m s S) (fun v s1 q => ?_) fun _ _ z => z)
  obtain ⟨r, σ1, ⟨b, rfl, hq⟩, h2, h3, S1⟩ := S.ev q
  cases h2
  refine truthy_b ?_
  cases b
  · exact ⟨_, σ1, hq, rfl, h3, S1.sim⟩
  · exact wpAny_mono (hq A env m s1 S1) (fun _ _ z => z.then h3) fun _ _ z => z.then h3
theorem ev_or {e₁ e₂ : Expr} {rest : List Expr} {pos : Pos} {Q : V → Store → Prop} (h : EvW G md e₁ loc σ (TruE (EOrQ G md e₂ rest pos loc Q X)) X) :
    EvW G md (.BoolOp .Or (e₁ :: e₂ :: rest) pos) loc σ Q X := fun A env m s S => by
  refine BoolOp_or (wpAny_mono (h A env m s S) (fun v s1 q => ?_) fun _ _ z => z)
  obtain ⟨r, σ1, ⟨b, rfl, hq⟩, h2, h3, S1⟩ := S.ev q
  cases h2
  refine truthy_b ?_
  cases b
  · exact wpAny_mono (hq A env m s1 S1) (fun _ _ z => z.then h3) fun _ _ z => z.then h3
  · exact ⟨_, σ1, hq, rfl, h3, S1.sim⟩
end
end Mine
end

section
namespace Mine

theorem strOk_append {x y : Str} (hx : PyData.strOk x = true) (hy : PyData.strOk y = true) : PyData.strOk (x ++ y) = true := by
  unfold PyData.strOk at *
  show (x.cps ++ y.cps).all _ = true
  rw [Array.all_append, hx, hy]; rfl
theorem Fit.append {x y : Str} (hx : Fit x) (hy : Fit y) (h : x.length + y.length ≤ 2 ^ 20) : Fit (x ++ y) := ⟨strOk_append hx.1 hy.1, by rw [strLen_append]; exact h⟩
theorem fit_line {n : Nat} (h : n ≤ 2 ^ 20) : n ≤ sizeLine := by rw [sizeLine_eq]; omega

inductive Bin : Operator → V → V → V → Prop
  | add (a b : Int) : Bin .Add (.int a) (.int b) (.int (a + b))
  | sub (a b : Int) : Bin .Sub (.int a) (.int b) (.int (a - b))
  | mul (a b : Int) (h : a.natAbs < 2 ^ 64) : Bin .Mult (.int a) (.int b) (.int (a * b))
  | fdiv (a b : Int) (h0 : b ≠ 0) (h : b.natAbs < 1073741824) : Bin .FloorDiv (.int a) (.int b) (.int (a.fdiv b))
  | mod (a b : Int) (h0 : b ≠ 0) : Bin .Mod (.int a) (.int b) (.int (a.fmod b))
  | pow (a b : Int) (h0 : 0 ≤ b) (h1 : b ≤ 1000000) (h2 : a.natAbs < 2 ^ 64) : Bin .Pow (.int a) (.int b) (.int (a ^ b.toNat))
  | shl (a b : Int) (h0 : 0 ≤ b) (h1 : b ≤ 1000000) (h2 : a.natAbs < 2 ^ 64) : Bin .LShift (.int a) (.int b) (.int (a * 2 ^ b.toNat))
  | cat (x y : Str) (h : x.length + y.length ≤ 2 ^ 20) : Bin .Add (.str x) (.str y) (.str (x ++ y))

/-- a new thing: told whole, or by its place in the store -/
noncomputable def Mk (σ : Store) (fz : V) (mo : MObj) (Q : V → Store → Prop) : Prop := Q fz σ ∨ ∀ a, σ a = none → Q (.ref a) (upd σ a mo)

section
variable {G : Gd} {md : Md} {A : Around} {env : Env} {m : Str → Option Value} {loc : Loc} {σ σ' : Store} {s s' : Shared} {X : Exn → Prop}

theorem bin_sound {op : Operator} {a b c : V} {va vb : Value} {Qv : Value → Shared → Prop} {E : Value → Shared → Prop} (bin : Bin op a b c) (ra : RelV G.P σ s.heap a va) (rb : RelV G.P σ s.heap b vb)
    (h : ∀ v t, RelV G.P σ s.heap c v → Qv v { s with toks := t }) : wpAny G.M A (binaryOp op va vb) Qv E s := by
  cases bin with
  | add a b => obtain ⟨t, rfl⟩ := ra; obtain ⟨u, rfl⟩ := rb; exact P.add_int (h _ _ ⟨_, rfl⟩)
  | sub a b => obtain ⟨t, rfl⟩ := ra; obtain ⟨u, rfl⟩ := rb; exact P.sub_int (h _ _ ⟨_, rfl⟩)
  | mul a b hm =>
    obtain ⟨t, rfl⟩ := ra; obtain ⟨u, rfl⟩ := rb
    exact P.mul_int (h _ _ ⟨_, rfl⟩) (.of_left (intBits_le_64 (by omega) (by omega)))
  | fdiv a b h0 hb =>
    obtain ⟨t, rfl⟩ := ra; obtain ⟨u, rfl⟩ := rb
    exact PyProof.Rows.floordiv_int h0 (h _ _ ⟨_, rfl⟩) (Or.inl (PyProof.noPylong_small hb))
  | mod a b h0 => obtain ⟨t, rfl⟩ := ra; obtain ⟨u, rfl⟩ := rb; exact PyProof.Rows.mod_int' h0 (h _ _ ⟨_, rfl⟩)
  | pow a b h0 h1 h2 => obtain ⟨t, rfl⟩ := ra; obtain ⟨u, rfl⟩ := rb; exact PyProof.Rows.pow_int_small h0 h1 h2 (h _ _ ⟨_, rfl⟩)
  | shl a b h0 h1 h2 => obtain ⟨t, rfl⟩ := ra; obtain ⟨u, rfl⟩ := rb; exact PyProof.Rows.lshift_int_small h0 h1 h2 (h _ _ ⟨_, rfl⟩)
  | cat x y hl =>
    obtain ⟨hx, t, rfl⟩ := ra; obtain ⟨hy, u, rfl⟩ := rb
    refine P.add_str ?_
    have hf := hx.append hy hl
    split
    · rename_i hz
      have : x ++ y = y := by
        have hz' : x.cps.size = 0 := by simpa [Str.length] using hz
        obtain ⟨cx⟩ := x
        have : cx = #[] := Array.eq_empty_of_size_eq_zero hz'
        subst this
        obtain ⟨cy⟩ := y
        show Str.mk (#[] ++ cy) = _
        rw [Array.empty_append]
      exact h _ s.toks ⟨hf, u, by rw [this]⟩
    · split
      · rename_i hz
        have : x ++ y = x := by
          have hz' : y.cps.size = 0 := by simpa [Str.length] using hz
          obtain ⟨cy⟩ := y
          have : cy = #[] := Array.eq_empty_of_size_eq_zero hz'
          subst this
          obtain ⟨cx⟩ := x
          show Str.mk (cx ++ #[]) = _
          rw [Array.append_empty]
        exact h _ s.toks ⟨hf, t, by rw [this]⟩
      · exact ⟨fit_line hf.2, h _ _ ⟨hf, _, rfl⟩⟩

inductive BinR (op : Operator) (a : V) (Q : V → Store → Prop) (b : V) (σ : Store) : Prop | mk (c : V) (h : Bin op a b c) (q : Q c σ)
abbrev BinQ (G : Gd) (md : Md) (r : Expr) (loc : Loc) (op : Operator) (Q : V → Store → Prop) (X : Exn → Prop) : V → Store → Prop := fun a σ1 => EvW G md r loc σ1 (BinR op a Q) X
inductive NegR (Q : V → Store → Prop) (v : V) (σ : Store) : Prop | mk (i : Int) (h : v = .int i) (q : Q (.int (-i)) σ)
inductive CatR (a : V) (Q : V → Store → Prop) (b : V) (σ : Store) : Prop | mk (l1 l2 : List V) (h1 : lk σ a = .lst l1) (h2 : lk σ b = .lst l2) (hz : l1.length + l2.length ≤ 2 ^ 20) (q : Mk σ (.lst (l1 ++ l2)) (.lst (l1 ++ l2)) Q)
abbrev CatQ (G : Gd) (md : Md) (r : Expr) (loc : Loc) (Q : V → Store → Prop) (X : Exn → Prop) : V → Store → Prop := fun a σ1 => EvW G md r loc σ1 (CatR a Q) X
theorem ev_bin {l r : Expr} {op : Operator} {pos : Pos} {Q : V → Store → Prop} (h : EvW G md l loc σ (BinQ G md r loc op Q X) X) :
    EvW G md (.BinOp l op r pos) loc σ Q X := fun A env m s S => by
  refine wpAny_BinOp (two S h fun a b va vb σ2 s2 q aft S2 ra rb => ?_)
  obtain ⟨c, hc, hq⟩ := q
  exact bin_sound hc ra rb fun v t r => ⟨c, σ2, hq, r, aft.trans (.tok ..), S2.sim⟩
theorem ev_neg {e : Expr} {pos : Pos} {Q : V → Store → Prop} (h : EvW G md e loc σ (NegR Q) X) : EvW G md (.UnaryOp .USub e pos) loc σ Q X := fun A env m s S => by
  refine UnaryOp_ (wpAny_mono (h A env m s S) (fun v s1 q => ?_) fun _ _ z => z)
  obtain ⟨r, σ1, ⟨i, rfl, hq⟩, ⟨t, rfl⟩, h3, h4⟩ := q
  exact P.neg_int ⟨_, σ1, hq, ⟨_, rfl⟩, h3.trans (.tok ..), h4⟩

/-- a heap that has grown -/
theorem grow {h' : Heap} {tk : Nat} (sim : Sim G.P σ s.heap) (hk : ∀ b o, s.heap.get? b = some o → h'.get? b = some o) : After σ σ s { s with heap := h', toks := tk } ∧ Sim G.P σ h' :=
  ⟨⟨⟨_, _, rfl⟩, fun b o e => ⟨fun _ => hk b o e, fun _ => ⟨o, hk b o e, .refl o⟩⟩, Dom.refl σ s.heap, fun b o e => ⟨o, hk b o e⟩⟩,
    fun a mo e => let ⟨o, ho, c⟩ := sim a mo e; ⟨o, hk a o ho, c.mono fun b o e z => ⟨hk b o e, z⟩⟩⟩
theorem fresh_none {a : Addr} (sim : Sim G.P σ s.heap) (ha : s.heap.get? a = none) : σ a = none := by
  cases hq : σ a with
  | none => rfl
  | some mo => obtain ⟨o, ho, _⟩ := sim _ _ hq; rw [ha] at ho; cases ho
theorem grow_put {h' : Heap} {tk : Nat} {a : Addr} {o' : Obj} {mo : MObj} (sim : Sim G.P σ s.heap) (hk : ∀ b o, s.heap.get? b = some o → h'.get? b = some o) (ha : s.heap.get? a = none) (ho : h'.get? a = some o') (c : ConcO G.P σ s.heap mo o') :
    After σ (upd σ a mo) s { s with heap := h', toks := tk } ∧ Sim G.P (upd σ a mo) h' := by
  have ne : ∀ b o, s.heap.get? b = some o → b ≠ a := fun b o e q => by rw [q, ha] at e; cases e
  have kR : ∀ b o, s.heap.get? b = some o → σ b = none → h'.get? b = some o ∧ upd σ a mo b = none := fun b o e z => ⟨hk b o e, (upd_ne σ _ (ne b o e)).trans z⟩
  refine ⟨⟨⟨_, _, rfl⟩, fun b o e => ⟨fun _ => hk b o e, fun _ => ⟨o, hk b o e, .refl o⟩⟩, fun b o e => ?_, fun b o e => ⟨o, hk b o e⟩⟩, fun b mb e => ?_⟩
  · rw [upd_ne σ _ (ne b o e)]
    exact ⟨id, id, fun v e => ⟨v, e⟩⟩
  · by_cases hb : b = a
    · subst hb
      rw [upd_eq] at e; cases e
      exact ⟨o', ho, c.mono kR⟩
    · rw [upd_ne σ _ hb] at e
      obtain ⟨o, h1, h2⟩ := sim b mb e
      exact ⟨o, hk b o h1, h2.mono kR⟩
theorem free_size (h : Heap) : h.get? h.objs.size = none := by
  cases hq : h.get? h.objs.size with
  | none => rfl
  | some o => exact absurd (Heap.lt_size hq) (Nat.lt_irrefl _)
theorem push_keeps (h : Heap) (o : Obj) : ∀ b o', h.get? b = some o' → (h.push o).get? b = some o' := fun b o' e => Heap.get?_push_of_some o e
theorem mk_list {l : List V} {vs : Array Value} {n : Nat} {tk : Nat} {Q : V → Store → Prop} (sim : Sim G.P σ s.heap) (r : RelVs G.P σ s.heap l vs.toList) (h : Mk σ (.lst l) (.lst l) Q) :
    EQ G σ Q s (.ref s.heap.objs.size) { s with heap := s.heap.push (lstObj vs n), toks := tk } := by
  have hk := push_keeps s.heap (lstObj vs n)
  have hf := free_size s.heap
  have hn : (s.heap.push (lstObj vs n)).get? s.heap.objs.size = some (lstObj vs n) := Heap.get?_push_size _ rfl
  rcases h with h | h
  · obtain ⟨k1, k2⟩ := grow (tk := tk) sim hk
    exact ⟨_, σ, h, ⟨_, vs, n, rfl, fresh_none sim hf, hn, r.mono fun b o e z => ⟨hk b o e, z⟩⟩, k1, k2⟩
  · obtain ⟨k1, k2⟩ := grow_put (tk := tk) sim hk hf hn (mo := .lst l) ⟨vs, n, rfl, r⟩
    exact ⟨_, _, h _ (fresh_none sim hf), rfl, k1, k2⟩

theorem ev_cat {l r : Expr} {pos : Pos} {Q : V → Store → Prop} (h : EvW G md l loc σ (CatQ G md r loc Q X) X) :
    EvW G md (.BinOp l .Add r pos) loc σ Q X := fun A env m s S => by
  refine wpAny_BinOp (two S h fun a b va vb σ2 s2 q aft S2 ra rb => ?_)
  obtain ⟨l1, l2, h1, h2, h3, h4⟩ := q
  obtain ⟨a1, vs, n, rfl, ho, hr⟩ := see_lst S2.sim ra h1
  obtain ⟨b1, ws, n', rfl, ho', hr'⟩ := see_lst S2.sim rb h2
  have e1 := hr.length
  have e2 := hr'.length
  rw [Array.length_toList] at e1 e2
  have hsz : vs.size + ws.size ≤ sizeLine := by rw [e1, e2]; exact fit_line h3
  refine concat_meets ⟨_, ho, rfl⟩ ⟨_, ho', rfl⟩ noFill_list_add seq_list_add PySem.F.slot_list_add PySem.F.entry_list_add (PySem.F.args_list_add_2 _ _) (AutoSeq1.list___add___list_list_0 _ vs n _ ws n' hsz) ⟨ho, ho', ?_⟩
  have := mk_list (s := s2) (tk := s2.toks) (n := 0) (vs := vs ++ ws) S2.sim (by rw [Array.toList_append]; exact hr.append hr') h4
  exact this.then aft
end
end Mine
end

section
namespace Mine

section
variable {G : Gd} {md : Md} {A : Around} {env : Env} {m : Str → Option Value} {loc : Loc} {σ σ' : Store} {s s' : Shared} {X : Exn → Prop}

theorem mk_tup {l : List V} {vs : Array Value} {n : Nat} {tk : Nat} {Q : V → Store → Prop} (sim : Sim G.P σ s.heap) (r : RelVs G.P σ s.heap l vs.toList) (h : Q (.tup l) σ) :
    EQ G σ Q s (.ref s.heap.objs.size) { s with heap := s.heap.push (tupObj vs n), toks := tk } := by
  have hk := push_keeps s.heap (tupObj vs n)
  have hf := free_size s.heap
  have hn : (s.heap.push (tupObj vs n)).get? s.heap.objs.size = some (tupObj vs n) := Heap.get?_push_size _ rfl
  obtain ⟨k1, k2⟩ := grow (tk := tk) sim hk
  exact ⟨_, σ, h, ⟨_, vs, n, rfl, fresh_none sim hf, hn, r.mono fun b o e z => ⟨hk b o e, z⟩⟩, k1, k2⟩

inductive TupR (Q : V → Store → Prop) (vs : List V) (σ : Store) : Prop | mk (hz : vs.length ≤ 1000) (q : Q (.tup vs) σ)
inductive LstR (Q : V → Store → Prop) (vs : List V) (σ : Store) : Prop | mk (hz : vs.length ≤ 1000) (q : Mk σ (.lst vs) (.lst vs) Q)
theorem ev_tuple {es : List Expr} {k : Nat} {pos : Pos} {Q : V → Store → Prop} (h : EvsW G md es loc σ (TupR Q) X) : EvW G md (.Tuple es k pos) loc σ Q X := fun A env m s S => by
  refine Tuple_ (wpAny_mono (h pos A env m s S) (fun vs s1 q => ?_) fun _ _ z => z)
  obtain ⟨rs, σ1, ⟨hl, hq⟩, h2, h3, h4⟩ := q
  have hz := h2.length
  refine wpAny_newTuple ?_ (by rw [sizeLine_eq]; lia)
  exact (mk_tup (s := s1) (tk := s1.toks) (n := 0) (vs := vs.toArray) h4 (by simpa using h2) hq).then h3
theorem ev_list {es : List Expr} {pos : Pos} {Q : V → Store → Prop} (h : EvsW G md es loc σ (LstR Q) X) : EvW G md (.List es pos) loc σ Q X := fun A env m s S => by
  refine List_ (wpAny_mono (h pos A env m s S) (fun vs s1 q => ?_) fun _ _ z => z)
  obtain ⟨rs, σ1, ⟨hl, hq⟩, h2, h3, h4⟩ := q
  have hz := h2.length
  refine wpAny_newList ?_ (by rw [sizeLine_eq]; lia)
  exact (mk_list (s := s1) (tk := s1.toks) (n := 0) (vs := vs.toArray) h4 (by simpa using h2) hq).then h3

theorem fold_app : ∀ (k : Nat) (acc items : Array Value), List.foldl (fun x1 x2 => x1 ++ x2) acc (List.replicate k items) = (acc.toList ++ (List.replicate k items.toList).flatten).toArray
  | 0, acc, items => by simp
  | k + 1, acc, items => by
    rw [List.replicate_succ, List.foldl_cons, fold_app k]
    simp [List.replicate_succ, List.append_assoc]
theorem relVs_rep {P : Params} {σ : Store} {h : Heap} {l : List V} {vs : List Value} (r : RelVs P σ h l vs) : ∀ k : Nat, RelVs P σ h (List.replicate k l).flatten (List.replicate k vs).flatten
  | 0 => rfl
  | k + 1 => by
    rw [List.replicate_succ, List.replicate_succ, List.flatten_cons, List.flatten_cons]
    exact r.append (relVs_rep r k)
/-- a list so many times over -/
inductive RepR (a : V) (Q : V → Store → Prop) (b : V) (σ2 : Store) : Prop | mk (l1 : List V) (i : Int) (h1 : lk σ2 a = .lst l1) (h2 : b = .int i) (h3 : 0 ≤ i) (h4 : i ≤ 2 ^ 20) (h5 : l1.length * i.toNat ≤ 2 ^ 20) (q : Mk σ2 (.lst (List.replicate i.toNat l1).flatten) (.lst (List.replicate i.toNat l1).flatten) Q)
abbrev RepQ (G : Gd) (md : Md) (r : Expr) (loc : Loc) (Q : V → Store → Prop) (X : Exn → Prop) : V → Store → Prop := fun a σ1 => EvW G md r loc σ1 (RepR a Q) X
theorem ev_rep {l r : Expr} {pos : Pos} {Q : V → Store → Prop} (h : EvW G md l loc σ (RepQ G md r loc Q X) X) :
    EvW G md (.BinOp l .Mult r pos) loc σ Q X := fun A env m s S => by
  refine wpAny_BinOp (two S h fun a b va vb σ2 s2 q aft S2 ra rb => ?_)
  obtain ⟨l1, i, h1, rfl, h0, hi, h3, h4⟩ := q
  obtain ⟨a1, vs, n, rfl, ho, hr⟩ := see_lst S2.sim ra h1
  obtain ⟨u, rfl⟩ := rb
  have e1 := hr.length
  rw [Array.length_toList] at e1
  have hsz : vs.size * i.toNat ≤ 2 ^ 20 := by rw [e1]; exact h3
  refine wpAny_binaryOp_repeat_ref (T := "list") (U := "int") (by decide) ⟨_, ho, rfl⟩ (fun s' => typeIs_int s' i u) noFill_list_mul F.fills_int_mul F.slot_int_rmul repeat_list F.slot_int_index.lookup
    (call_meets F.slot_int_rmul (typeIs_int _ i u) F.entry_int_rmul (F.args_int_rmul_2 _ _) (int___rmul___int_list i u a1 vs n)
      ⟨ho, rfl, ⟨_, ho, rfl⟩, call_meets F.slot_list_mul ⟨_, ho, rfl⟩ F.entry_list_mul (F.args_list_mul_2 _ _)
        (AutoListH.list___mul___list_int_3 a1 vs n i u (by simp [Builtin.List.listFitsIndex]; lia) (by lia) (by simp [Builtin.List.listTooLong, sizeLine]; lia))
        ⟨ho, ?_⟩⟩)
  have hk : (if vs.isEmpty = true then 0 else i.toNat) = if vs.isEmpty = true then 0 else i.toNat := rfl
  have hrel : RelVs G.P σ2 s2.heap (List.replicate i.toNat l1).flatten (List.foldl (fun x1 x2 => x1 ++ x2) #[] (List.replicate (if vs.isEmpty = true then 0 else i.toNat) vs)).toList := by
    rw [fold_app]
    simp only [List.nil_append]
    by_cases hv : vs.isEmpty = true
    · rw [if_pos hv]
      have : vs = #[] := by simpa using hv
      subst this
      cases l1 with
      | nil => simpa [List.flatten_replicate_nil] using RelVs.nil (P := G.P) (σ := σ2) (h := s2.heap)
      | cons x l1 => obtain ⟨_, _, e, _⟩ := hr; cases e
    · rw [if_neg hv]
      exact relVs_rep hr _
  exact (mk_list (s := s2) (tk := s2.toks) (n := 0) S2.sim hrel h4).then aft
end
end Mine
end

section
namespace Mine

/-- the item at k, from behind where k is below zero -/
noncomputable def ixAt {α : Type} (l : List α) (k : Int) : Option α := match seqIndex? k l.length with
  | some j => l[j]?
  | none => none
inductive Item (σ : Store) : V → V → V → Prop
  | lst (o : V) (l : List V) (k : Int) (x : V) (h : lk σ o = .lst l) (hk : -(2 ^ 63) ≤ k ∧ k < 2 ^ 63) (hx : ixAt l k = some x) : Item σ o (.int k) x
  | tup (l : List V) (k : Int) (x : V) (hk : -(2 ^ 63) ≤ k ∧ k < 2 ^ 63) (hx : ixAt l k = some x) : Item σ (.tup l) (.int k) x
  | str (s : Str) (k : Int) (c : Nat) (hk : -(2 ^ 63) ≤ k ∧ k < 2 ^ 63) (hx : ixAt s.cps.toList k = some c) : Item σ (.str s) (.int k) (.str ⟨#[c]⟩)
  | sdc (ks : List Str) (vs : List V) (k : Str) (x : V) (hx : getF ks vs k = some x) : Item σ (.sdc ks vs) (.str k) x
  | idc (ks : List Int) (vs : List V) (k : Int) (x : V) (hx : getI ks vs k = some x) : Item σ (.idc ks vs) (.int k) x

noncomputable def cutL {α : Type} (l : List α) (lo hi : Option Int) : List α := (l.drop (lo.elim 0 (clipAt l.length))).take (hi.elim l.length (clipAt l.length) - lo.elim 0 (clipAt l.length))

section
variable {G : Gd} {md : Md} {A : Around} {env : Env} {m : Str → Option Value} {loc : Loc} {σ σ' : Store} {s s' : Shared} {X : Exn → Prop}

theorem seqIx {n : Nat} {k : Int} {j : Nat} (h : seqIndex? k n = some j) : (0 ≤ k ∧ j = k.toNat ∧ j < n) ∨ (k < 0 ∧ -(n : Int) ≤ k ∧ j = (k + n).toNat ∧ j < n) := by
  unfold seqIndex? at h
  by_cases hk : k < 0
  · simp only [hk, if_true] at h
    split at h
    · rename_i hc
      cases h
      simp at hc
      right; omega
    · cases h
  · simp only [hk, if_false] at h
    split at h
    · rename_i hc
      cases h
      simp at hc
      left; omega
    · cases h

theorem item_sound {o i x : V} {vo vi : Value} {Qv : Value → Shared → Prop} {E : Value → Shared → Prop} (it : Item σ o i x) (sim : Sim G.P σ s.heap) (ro : RelV G.P σ s.heap o vo) (ri : RelV G.P σ s.heap i vi)
    (h : ∀ v t, RelV G.P σ s.heap x v → Qv v { s with toks := t }) : ∃ T id, s.TypeIs vo T ∧ typeLookup (.type T) "__getitem__" = pure (some (.builtin id)) ∧ wpAny G.M A (getItem vo vi) Qv E s := by
  cases it with
  | lst _ l k x hl hk hx =>
    obtain ⟨a, vs, n, rfl, ho, hr⟩ := see_lst sim ro hl
    obtain ⟨t, rfl⟩ := ri
    have hT : s.heap.IsList a vs := ⟨_, ho, rfl, n, rfl⟩
    refine ⟨"list", _, hT.typeIs, slot_list_getitem.lookup, ?_⟩
    unfold ixAt at hx
    split at hx
    · rename_i j hj
      obtain ⟨v, hv, r⟩ := hr.get j hx
      have hlen := hr.length
      rw [Array.length_toList] at hlen
      rcases seqIx hj with ⟨h0, rfl, h2⟩ | ⟨h0, h1, rfl, h2⟩
      · exact wpAny_getItem_list hT h0 hk.2 (by simpa using hv) (h v s.toks r)
      · exact wpAny_getItem_list_neg hT h0 (by rw [hlen]; exact h1) hk.1 (by rw [hlen]; simpa using hv) (h v s.toks r)
    · cases hx
  | tup l k x hk hx =>
    obtain ⟨a, vs, n, rfl, _, ho, hr⟩ := ro
    obtain ⟨t, rfl⟩ := ri
    have hT : IsTup s.heap a vs := ⟨_, ho, rfl, n, rfl⟩
    refine ⟨"tuple", _, hT.typeIs, slot_tuple_getitem.lookup, ?_⟩
    unfold ixAt at hx
    split at hx
    · rename_i j hj
      obtain ⟨v, hv, r⟩ := hr.get j hx
      have hlen := hr.length
      rw [Array.length_toList] at hlen
      exact getItem_tuple hT hk.1 hk.2 (by rw [hlen]; exact hj) (by simpa using hv) (h v s.toks r)
    · cases hx
  | str y k c hk hx =>
    obtain ⟨hf, t, rfl⟩ := ro
    obtain ⟨u, rfl⟩ := ri
    refine ⟨"str", _, typeIs_str s y t, F.slot_str_getitem.lookup, ?_⟩
    unfold ixAt at hx
    split at hx
    · rename_i j hj
      have hc : y.cps[j]? = some c := by simpa using hx
      refine P.getItem_str (c := c) (by simp; omega) ?_ (h _ _ ⟨⟨?_, by show 1 ≤ 2 ^ 20; decide⟩, _, rfl⟩)
      · rw [show y.length = y.cps.toList.length by simp [Str.length], hj]
        exact hc
      · have := hf.1
        unfold PyData.strOk at this ⊢
        have hm : c ∈ y.cps := Array.mem_of_getElem? hc
        have := Array.all_eq_true'.mp this c hm
        simpa using this
    · cases hx
  | sdc ks vs k x hx =>
    obtain ⟨a, f, rfl, _, hm, hf⟩ := sdc_map ro
    obtain ⟨_, t, rfl⟩ := ri
    refine ⟨"dict", _, hm.typeIs, slot_dict_getitem.lookup, ?_⟩
    have := hf k
    rw [hx] at this
    obtain ⟨v, hv, r⟩ := this
    exact wpAny_getItem_of (by simp [PySem.strKind, Value.isStrOf]) hm hv (h v _ r)
  | idc ks vs k x hx =>
    obtain ⟨a, f, rfl, _, hm, hf⟩ := idc_map ro
    obtain ⟨t, rfl⟩ := ri
    refine ⟨"dict", _, hm.typeIs, slot_dict_getitem.lookup, ?_⟩
    have := hf k
    rw [hx] at this
    obtain ⟨v, hv, r⟩ := this
    exact wpAny_getItem_of (by simp [intKind, Value.isInt]) hm hv (h v _ r)

inductive SubR (o : V) (Q : V → Store → Prop) (i : V) (σ : Store) : Prop | mk (x : V) (h : Item σ o i x) (q : Q x σ)
abbrev SubQ (G : Gd) (md : Md) (slice : Expr) (loc : Loc) (Q : V → Store → Prop) (X : Exn → Prop) : V → Store → Prop := fun o σ1 => EvW G md slice loc σ1 (SubR o Q) X
inductive PtR (Q : Option Int → Store → Prop) (v : V) (σ : Store) : Prop | mk (i : Int) (h : v = .int i) (q : Q (some i) σ)
theorem ev_sub {value slice : Expr} {pos : Pos} {Q : V → Store → Prop} (h : EvW G md value loc σ (SubQ G md slice loc Q X) X)
    (hs : ∀ o i, subscripted slice false o i = operate [o, i] (getItem o i) := by intro _ _; with_unfolding_all rfl) : EvW G md (.Subscript value slice pos) loc σ Q X := fun A env m s S => by
  refine Subscript_ (two S h fun a b va vb σ2 s2 q aft S2 ra rb => ?_)
  obtain ⟨x, it, hq⟩ := q
  obtain ⟨T, id, hT, hl, hw⟩ := item_sound (A := A) (Qv := EQ G σ Q s) (E := EX G σ X s) it S2.sim ra rb fun v t r => ⟨x, σ2, hq, r, aft.trans (.tok ..), S2.sim⟩
  exact tail_any hT hl hw (hs _ _)

/-- a bound of a slice -/
noncomputable def PartW (G : Gd) (md : Md) (e : Option Expr) (loc : Loc) (σ : Store) (Q : Option Int → Store → Prop) (X : Exn → Prop) : Prop := match e with
  | none => Q none σ
  | some e => EvW G md e loc σ (PtR Q) X
theorem part_sound {e : Option Expr} {Q : Option Int → Store → Prop} {K : Value → Shared → Prop} (S : St G md A env m loc σ s) (h : PartW G md e loc σ Q X)
    (k : ∀ v p σ1 s1, Q p σ1 → IsPart v p → After σ σ1 s s1 → St G md A env m loc σ1 s1 → K v s1) : wpAny G.M A (evalPart e env) K (EX G σ X s) s := by
  cases e with
  | none => exact wpAny_pure (k _ _ σ s h .none (.refl ..) S)
  | some e =>
    refine wpAny_mono (h A env m s S) (fun v s1 q => ?_) fun _ _ z => z
    obtain ⟨r, σ1, ⟨i, rfl, hq⟩, ⟨t, rfl⟩, h3, S1⟩ := S.ev q
    exact k _ _ σ1 s1 hq (.int i t) h3 S1

theorem RelVs.drop {P : Params} {h : Heap} : ∀ (n : Nat) {l : List V} {vs : List Value}, RelVs P σ h l vs → RelVs P σ h (l.drop n) (vs.drop n)
  | 0, _, _, r => r
  | n + 1, [], _, r => by cases r; exact .nil
  | n + 1, x :: l, _, r => by obtain ⟨v, vs, rfl, _, r2⟩ := r; exact RelVs.drop n r2
theorem RelVs.take {P : Params} {h : Heap} : ∀ (n : Nat) {l : List V} {vs : List Value}, RelVs P σ h l vs → RelVs P σ h (l.take n) (vs.take n)
  | 0, _, _, r => .nil
  | n + 1, [], _, r => by cases r; exact .nil
  | n + 1, x :: l, _, r => by obtain ⟨v, vs, rfl, r1, r2⟩ := r; exact .cons r1 (RelVs.take n r2)
theorem RelVs.rev {P : Params} {h : Heap} : ∀ {l : List V} {vs : List Value}, RelVs P σ h l vs → RelVs P σ h l.reverse vs.reverse
  | [], _, r => by cases r; exact .nil
  | x :: l, _, r => by
    obtain ⟨v, vs, rfl, r1, r2⟩ := r
    rw [List.reverse_cons, List.reverse_cons]
    exact r2.rev.append (.cons r1 .nil)

theorem strOk_cut {x : Str} (h : PyData.strOk x = true) (lo hi : Option Int) : PyData.strOk (Txt.slice x lo hi) = true := by
  unfold Txt.slice
  split
  · exact h
  · unfold PyData.strOk at *
    rw [Array.all_eq_true']
    intro c hc
    rw [List.mem_toArray, List.mem_filterMap] at hc
    obtain ⟨j, _, hj⟩ := hc
    exact Array.all_eq_true'.mp h c (Array.mem_of_getElem? hj)
theorem Fit.cut {x : Str} (h : Fit x) (lo hi : Option Int) : Fit (Txt.slice x lo hi) := ⟨strOk_cut h.1 lo hi, Nat.le_trans (Txt.slice_le x lo hi) h.2⟩

theorem two_more {value lower upper : Option Expr} : True := trivial
abbrev CutR (o : V) (Q : V → Store → Prop) (lo hi : Option Int) (σ3 : Store) : Prop := (∃ l, lk σ3 o = .lst l ∧ l.length ≤ 2 ^ 20 ∧ Mk σ3 (.lst (cutL l lo hi)) (.lst (cutL l lo hi)) Q) ∨ ∃ x, o = .str x ∧ Q (.str (Txt.slice x lo hi)) σ3
abbrev CutQ2 (G : Gd) (md : Md) (upper : Option Expr) (loc : Loc) (o : V) (Q : V → Store → Prop) (X : Exn → Prop) : Option Int → Store → Prop := fun lo σ2 => PartW G md upper loc σ2 (CutR o Q lo) X
abbrev CutQ (G : Gd) (md : Md) (lower upper : Option Expr) (loc : Loc) (Q : V → Store → Prop) (X : Exn → Prop) : V → Store → Prop := fun o σ1 => PartW G md lower loc σ1 (CutQ2 G md upper loc o Q X) X
/-- a slice of a list or of a text -/
theorem ev_cut {value : Expr} {lower upper : Option Expr} {p pos : Pos} {Q : V → Store → Prop}
    (h : EvW G md value loc σ (CutQ G md lower upper loc Q X) X) :
    EvW G md (.Subscript value (.Slice lower upper none p) pos) loc σ Q X := fun A env m s S => by
  refine Subscript_ (wpAny_mono (h A env m s S) (fun vo s1 q => ?_) fun _ _ z => z)
  obtain ⟨o, σ1, h1, h2, h3, S1⟩ := S.ev q
  refine wpAny_Slice (wpAny_mono (part_sound (K := fun lv s2 => wpAny G.M A (evalPart upper env) (fun u s₂ => wpAny G.M A (evalPart none env) (fun st s₃ => wpAny G.M A (subscriptTail value (.Slice lower upper none p) vo (.ref s₃.heap.objs.size)) (EQ G σ Q s) (EX G σ X s)
    { s₃ with heap := s₃.heap.push { cls := .type "slice", data := .fields #[lv, u, st] } }) (EX G σ X s) s₂) (EX G σ X s) s2) S1 h1 fun lv lo σ2 s2 q2 pl a2 S2 => ?_) (fun _ _ z => z) fun _ _ z => z.then h3)
  refine wpAny_mono (part_sound (K := fun u s₂ => wpAny G.M A (evalPart none env) (fun st s₃ => wpAny G.M A (subscriptTail value (.Slice lower upper none p) vo (.ref s₃.heap.objs.size)) (EQ G σ Q s) (EX G σ X s)
    { s₃ with heap := s₃.heap.push { cls := .type "slice", data := .fields #[lv, u, st] } }) (EX G σ X s) s₂) S2 q2 fun uv hi σ3 s3 q3 pu a3 S3 => ?_) (fun _ _ z => z) fun _ _ z => (z.then a2).then h3
  rw [evalPart_none]
  refine wpAny_pure ?_
  have ro := (h2.step a2.keep a2.dom).step a3.keep a3.dom
  have aft := (h3.trans a2).trans a3
  obtain ⟨g1, g2⟩ := grow (tk := s3.toks) S3.sim (push_keeps s3.heap { cls := .type "slice", data := .fields #[lv, uv, .none] })
  rcases q3 with ⟨l, hl, hz, hq⟩ | ⟨x, rfl, hq⟩
  · obtain ⟨a, vs, n, rfl, ho, hr⟩ := see_lst S3.sim ro hl
    have hlen := hr.length
    rw [Array.length_toList] at hlen
    have hT : s3.heap.IsList a vs := ⟨_, ho, rfl, n, rfl⟩
    refine tail_any (hT.push _).typeIs list_getitem_lookup (wpAny_getItem_list_slice (hT.push _) (Heap.IsSliceOf.new ..) pl pu .none (by simp) ?_ (by rw [hlen]; exact fit_line hz)) (by rfl)
    rw [slicePick_plain]
    refine (mk_list (s := { s3 with heap := s3.heap.push _, toks := s3.toks }) (σ := σ3) (tk := s3.toks) (n := 0) g2 ?_ hq).then (aft.trans g1)
    rw [List.toList_toArray, hlen]
    exact (RelVs.take _ (RelVs.drop _ hr)).step g1.keep g1.dom
  · obtain ⟨hf, t, rfl⟩ := ro
    have pv : ∀ {v : Value} {q : Option Int}, IsPart v q → ∃ l : Option (Int × Tok), v = partValue l ∧ l.map (·.1) = q := by
      intro v q hv
      cases hv with
      | none => exact ⟨none, rfl, rfl⟩
      | int i t => exact ⟨some (i, t), rfl, rfl⟩
    obtain ⟨l, rfl, rfl⟩ := pv pl
    obtain ⟨u, rfl, rfl⟩ := pv pu
    refine tail_any (typeIs_str _ x t) F.slot_str_getitem.lookup (wpAny_getItem_str_slice (l := l) (u := u) (st := none) ⟨_, Heap.get?_push_size _ rfl, rfl, rfl⟩ rfl ?_) (by rfl)
    have e1 : sliceMade x t l u none = (if ((1 : Int) == 1 && (Builtin.Str.strSliceIndices (l.map (·.1)) (u.map (·.1)) 1 x.length).length == x.length) = true then Made.val (.str x t)
      else Made.str ⟨((Builtin.Str.strSliceIndices (l.map (·.1)) (u.map (·.1)) 1 x.length).filterMap (x.cps[·]?)).toArray⟩) := rfl
    have e2 : (if ((1 : Int) == 1 && (Builtin.Str.strSliceIndices (l.map (·.1)) (u.map (·.1)) 1 x.length).length == x.length) = true then x
      else ⟨((Builtin.Str.strSliceIndices (l.map (·.1)) (u.map (·.1)) 1 x.length).filterMap (x.cps[·]?)).toArray⟩) = Txt.slice x (l.map (·.1)) (u.map (·.1)) := rfl
    have hc := hf.cut (l.map (·.1)) (u.map (·.1))
    rw [e1]
    refine post_val_or_str ?_
    rw [e2]
    exact ⟨fit_line hc.2, fun t' k => ⟨_, σ3, hq, ⟨hc, t', rfl⟩, (aft.trans g1).trans (.tok ..), g2⟩⟩

inductive RevR (Q : V → Store → Prop) (o : V) (σ1 : Store) : Prop | mk (l : List V) (h1 : lk σ1 o = .lst l) (h2 : l.length ≤ 2 ^ 20) (q : Mk σ1 (.lst l.reverse) (.lst l.reverse) Q)
/-- a list from behind: «l[::-1]» -/
theorem ev_rev {value : Expr} {p1 p2 p3 pos : Pos} {Q : V → Store → Prop}
    (h : EvW G md value loc σ (RevR Q) X) :
    EvW G md (.Subscript value (.Slice none none (some (.UnaryOp .USub (.Constant (.int 1) 0 p1) p2)) p3) pos) loc σ Q X := fun A env m s S => by
  refine Subscript_ (wpAny_mono (h A env m s S) (fun vo s1 q => ?_) fun _ _ z => z)
  obtain ⟨o, σ1, ⟨l, hl, hz, hq⟩, h2, h3, S1⟩ := S.ev q
  refine wpAny_Slice ?_
  rw [evalPart_none]
  refine wpAny_pure (wpAny_pure ?_)
  rw [evalPart_some]
  refine UnaryOp_ (wpAny_Constant_int (P.neg_int ?_))
  obtain ⟨g1, g2⟩ := grow (tk := s1.toks + 1 + 1) S1.sim (push_keeps s1.heap { cls := .type "slice", data := .fields #[.none, .none, .int (-1) (s1.toks + 1)] })
  obtain ⟨a, vs, n, rfl, ho, hr⟩ := see_lst S1.sim h2 hl
  have hlen := hr.length
  rw [Array.length_toList] at hlen
  have hT : s1.heap.IsList a vs := ⟨_, ho, rfl, n, rfl⟩
  have hsub : subscripted (.Slice none none (some (.UnaryOp .USub (.Constant (.int 1) 0 p1) p2)) p3) false (.ref a) (.ref s1.heap.objs.size) = operate [.ref a, .ref s1.heap.objs.size] (getItem (.ref a) (.ref s1.heap.objs.size)) := rfl
  have hT' := hT.push { cls := .type "slice", data := .fields #[.none, .none, .int (-1) (s1.toks + 1)] }
  refine tail_any (s := { s1 with heap := s1.heap.push { cls := .type "slice", data := .fields #[.none, .none, .int (-1) (s1.toks + 1)] }, toks := s1.toks + 1 + 1 }) hT'.typeIs list_getitem_lookup ?_ hsub
  refine wpAny_getItem_list_slice (lo := none) (hi := none) (st := some (-1)) hT' (Heap.IsSliceOf.new ..) .none .none (.int (-1) _) (by simp) ?_ (by rw [hlen]; exact fit_line hz)
  rw [krv_pick]
  refine (mk_list (s := { s1 with heap := s1.heap.push _, toks := s1.toks + 1 + 1 }) (σ := σ1) (tk := s1.toks + 1 + 1) (n := 0) g2 ?_ hq).then (h3.trans g1)
  rw [List.toList_toArray]
  exact hr.rev.step g1.keep g1.dom
end
end Mine
end

section
namespace Mine

noncomputable def isiOk (K : Frag) (D C : Addr) : Bool → Bool
  | true => isIn K (.ref D) C
  | false => kin_not K D C && plainGet K D "__class__" && hasDictIn K D && (findIn K (.ref D) "__class__" == some (some (.builtin "object.__class__")))
    && (specialIn K (.builtin "object.__class__") "__get__" == some (some (.builtin "getset_descriptor.__get__"))) && (takesIn K (.builtin "object.__class__") == some true) && (mroIn K D (.type "object") == some true)
/-- whether an object of the class D is one of the class C -/
noncomputable def IsiAt (G : Gd) (D C : Addr) (b : Bool) : Prop := ∃ K : Frag, K.In G.base ∧ isiOk K D C b = true
noncomputable def IsiNone (G : Gd) (C : Addr) : Prop := ∃ K : Frag, K.In G.base ∧ isNotIn K "NoneType" C = true

noncomputable def lenV (σ : Store) (x : V) : Option Nat := match lk σ x with
  | .lst l => some l.length
  | .tup l => some l.length
  | .str s => some s.length
  | _ => none
noncomputable def intsOf : List V → Option (List Int)
  | [] => some []
  | y :: l => (asInt y).bind fun i => (intsOf l).map (i :: ·)
theorem intsOf_cons {y : V} {l : List V} {ns : List Int} (h : intsOf (y :: l) = some ns) : ∃ i r, y = .int i ∧ intsOf l = some r ∧ ns = i :: r := by
  obtain ⟨s, h1, h2⟩ := Option.bind_eq_some_iff.mp h
  obtain ⟨r, h3, h4⟩ := Option.map_eq_some_iff.mp h2
  exact ⟨s, r, asInt_eq h1, h3, h4.symm⟩

section
variable {G : Gd} {md : Md} {A : Around} {env : Env} {m : Str → Option Value} {loc : Loc} {σ σ' : Store} {s s' : Shared} {X : Exn → Prop} {Q : V → Store → Prop}

theorem one_arg {P : Params} {h : Heap} {x : V} {vals : List Value} (r : RelVs P σ h [x] vals) : ∃ v, vals = [v] ∧ RelV P σ h x v := by
  obtain ⟨v, vs, rfl, r1, r2⟩ := r
  cases r2
  exact ⟨v, rfl, r1⟩
theorem two_args {P : Params} {h : Heap} {x y : V} {vals : List Value} (r : RelVs P σ h [x, y] vals) : ∃ v w, vals = [v, w] ∧ RelV P σ h x v ∧ RelV P σ h y w := by
  obtain ⟨v, vs, rfl, r1, r2⟩ := r
  obtain ⟨w, rfl, r3⟩ := one_arg r2
  exact ⟨v, w, rfl, r1, r3⟩

theorem bi_len {x : V} {n : Nat} (h : lenV σ x = some n) (hn : n ≤ 2 ^ 60) (hq : Q (.int n) σ) : CallW G 0 (.builtin "len") [x] σ Q X := by
  intro md A env m loc s vals hmd hhd S hr
  obtain ⟨v, rfl, r⟩ := one_arg hr
  have fin : ∀ k, k = n → EQ G σ Q s (.int (k : Nat) (s.toks + 1)) { s with toks := s.toks + 1 + 1 } := fun k e => ⟨_, σ, hq, ⟨s.toks + 1, by rw [e]⟩, .tok .., S.sim⟩
  unfold lenV at h
  generalize hl : lk σ x = y at h
  cases y with
  | lst l =>
    cases h
    obtain ⟨a, vs, k, rfl, ho, hr⟩ := see_lst S.sim r hl
    have e := hr.length
    rw [Array.length_toList] at e
    exact PySem.Calls.call_len_list ⟨_, ho, rfl, k, rfl⟩ (by rw [e]; lia) (fin _ e)
  | tup l =>
    cases h
    obtain rfl := lk_tup hl
    obtain ⟨a, vs, k, rfl, _, ho, hr⟩ := r
    have e := hr.length
    rw [Array.length_toList] at e
    exact len_tuple ⟨_, ho, rfl, k, rfl⟩ (by rw [e]; lia) (fin _ e)
  | str s =>
    cases h
    obtain rfl := lk_str hl
    obtain ⟨hf, t, rfl⟩ := r
    exact P.len_str (by lia) (fin _ rfl)
  | _ => cases h

theorem bi_str_int {i : Int} (hi : i.natAbs.log2 < 1920) (hf : Fit (Str.ofString (toString i))) (hq : Q (.str (Str.ofString (toString i))) σ) : CallW G 0 (.type "str") [.int i] σ Q X := by
  intro md A env m loc s vals hmd hhd S hr
  obtain ⟨v, rfl, t, rfl⟩ := one_arg hr
  exact P.str_of_int hi ⟨_, σ, hq, ⟨hf, _, rfl⟩, .tok .., S.sim⟩
theorem bi_int_str {x : Str} {i : Int} (hi : PySem.intText? x = some i) (hl : x.length ≤ 640) (hq : Q (.int i) σ) : CallW G 0 (.type "int") [.str x] σ Q X := by
  intro md A env m loc s vals hmd hhd S hr
  obtain ⟨v, rfl, hf, t, rfl⟩ := one_arg hr
  exact KIN.call_text hi hl ⟨_, σ, hq, ⟨_, rfl⟩, .tok .., S.sim⟩
theorem bi_tuple {x : V} {l : List V} (hl : lk σ x = .lst l) (hz : l.length ≤ 2 ^ 20) (hq : Q (.tup l) σ) : CallW G 0 (.type "tuple") [x] σ Q X := by
  intro md A env m loc s vals hmd hhd S hr
  obtain ⟨v, rfl, r⟩ := one_arg hr
  obtain ⟨a, vs, k, rfl, ho, hr⟩ := see_lst S.sim r hl
  have e := hr.length
  rw [Array.length_toList] at e
  refine call_tuple_list ⟨_, ho, rfl, k, rfl⟩ (fun h' hk => ?_) (by rw [e]; exact fit_line hz)
  obtain ⟨g1, g2⟩ := grow (tk := s.toks) S.sim hk
  exact (mk_tup (s := { s with heap := h', toks := s.toks }) (tk := s.toks) (n := 0) g2 (hr.step g1.keep g1.dom) hq).then g1

theorem ints_items {P : Params} {h : Heap} {l : List V} : ∀ {vs : List Value} {ns : List Int}, RelVs P σ h l vs → intsOf l = some ns → ∃ xs : List (Int × Tok), vs = xs.map (fun p => Value.int p.1 p.2) ∧ xs.map (·.1) = ns := by
  induction l with
  | nil => intro vs ns r e; cases r; cases e; exact ⟨[], rfl, rfl⟩
  | cons y l ih =>
    intro vs ns r e
    obtain ⟨v, vs, rfl, r1, r2⟩ := r
    obtain ⟨i, ns, rfl, hns, rfl⟩ := intsOf_cons e
    obtain ⟨t, rfl⟩ := r1
    obtain ⟨xs, rfl, rfl⟩ := ih r2 hns
    exact ⟨(i, t) :: xs, rfl, rfl⟩
theorem bi_sum {x : V} {l : List V} {ns : List Int} (hl : lk σ x = .lst l) (hi : intsOf l = some ns) (hq : Q (.int ns.sum) σ) : CallW G 0 (.builtin "sum") [x] σ Q X := by
  intro md A env m loc s vals hmd hhd S hr
  obtain ⟨v, rfl, r⟩ := one_arg hr
  obtain ⟨a, vs, k, rfl, ho, hr⟩ := see_lst S.sim r hl
  obtain ⟨xs, hxs, rfl⟩ := ints_items hr hi
  have e : vs = intItems xs.toArray := by
    obtain ⟨w⟩ := vs
    have : w = _ := hxs
    subst this
    simp [intItems]
  subst e
  refine sum_intListG (S.frm.hand.trans hhd) ⟨_, ho, rfl, k, rfl⟩ fun h' tk t' hk => ?_
  obtain ⟨g1, g2⟩ := grow (tk := tk) S.sim hk
  refine ⟨_, σ, hq, ⟨t', ?_⟩, g1, g2⟩
  rw [preSum_eq, List.take_of_length_le (by simp)]

theorem bi_isi_obj {x : V} {C D : Addr} {ks : List Str} {vs : List V} {b : Bool} (ok : G.Ok) (hl : look σ x = some (D, ks, vs)) (hi : IsiAt G D C b) (hq : Q (.bool b) σ) : CallW G 0 (.builtin "isinstance") [x, .ref C] σ Q X := by
  intro md A env m loc s vals hmd hhd S hr
  obtain ⟨v, w, rfl, r, rfl⟩ := two_args hr
  obtain ⟨a, dx, es, n, rfl, h1, h2, h3, h4⟩ := see_obj S.sim r hl
  obtain ⟨K, hK, hb⟩ := hi
  have I : InstAt s.heap a (instObj D dx) D (some (dctObj es n)) := ⟨h1, rfl, rfl, h2⟩
  have X1 := hK.keeps S.frm.stays
  cases b with
  | true => exact isi_call X1 (fun M => I.type) hb (by intro q; cases q) ⟨_, σ, hq, rfl, .refl .., S.sim⟩
  | false =>
    simp only [isiOk, Bool.and_eq_true] at hb
    obtain ⟨⟨⟨⟨⟨⟨c1, c2⟩, c3⟩, c4⟩, c5⟩, c6⟩, c7⟩ := hb
    exact kin_callC X1 I c1 c2 c3 (beq_iff_eq.mp c4) (beq_iff_eq.mp c5) (beq_iff_eq.mp c6) (beq_iff_eq.mp c7) ⟨_, σ, hq, rfl, .tok .., S.sim⟩
theorem bi_isi_none {C : Addr} (hi : IsiNone G C) (hq : Q (.bool false) σ) : CallW G 0 (.builtin "isinstance") [.none, .ref C] σ Q X := by
  intro md A env m loc s vals hmd hhd S hr
  obtain ⟨v, w, rfl, r, rfl⟩ := two_args hr
  cases r
  obtain ⟨K, hK, hb⟩ := hi
  exact isn_call (P := fun _ => True) (hK.keeps S.frm.stays) (fun M => Looks.of_pure rfl) hb (by intro e; cases e) trivial none_cls ⟨_, σ, hq, rfl, .tok .., S.sim⟩

noncomputable def tyN : V → Option String
  | .int _ => some "int"
  | .str _ => some "str"
  | .tup _ => some "tuple"
  | .lst _ => some "list"
  | _ => none
noncomputable def isTyN (n T : String) : Option Bool := if T = "tuple" then some (n == "tuple") else if T = "str" then some (n == "str") else none
noncomputable def isTy (x : V) (T : String) : Option Bool := match tyN x with
  | some n => isTyN n T
  | none => none
theorem isTyN_eq {n T : String} {b : Bool} (h : isTyN n T = some b) : (T = "tuple" ∧ (n == "tuple") = b) ∨ (T = "str" ∧ (n == "str") = b) := by
  unfold isTyN at h
  by_cases h1 : T = "tuple"
  · rw [if_pos h1] at h; cases h; exact .inl ⟨h1, rfl⟩
  · rw [if_neg h1] at h
    by_cases h2 : T = "str"
    · rw [if_pos h2] at h; cases h; exact .inr ⟨h2, rfl⟩
    · rw [if_neg h2] at h; cases h
theorem bi_isi_ty {x : V} {T : String} {b : Bool} (hi : isTy (lk σ x) T = some b) (hq : Q (.bool b) σ) : CallW G 0 (.builtin "isinstance") [x, .ty T] σ Q X := by
  intro md A env m loc s vals hmd hhd S hr
  obtain ⟨v, w, rfl, r, rfl⟩ := two_args hr
  have fin : ∀ t, EQ G σ Q s (.bool b) { s with toks := t } := fun t => ⟨_, σ, hq, rfl, .tok .., S.sim⟩
  by_cases hl : ∃ l, lk σ x = .lst l
  · obtain ⟨l, hl⟩ := hl
    obtain ⟨a, vs, k, rfl, ho, _⟩ := see_lst S.sim r hl
    rw [hl] at hi
    rcases isTyN_eq (n := "list") hi with ⟨rfl, rfl⟩ | ⟨rfl, rfl⟩
    · exact IsiPair.list_tuple ho rfl (fin _)
    · exact IsiPair.list_str ho rfl (fin _)
  · rw [lk_not hl] at hi
    cases x with
    | int i =>
      obtain ⟨t, rfl⟩ := r
      rcases isTyN_eq (n := "int") hi with ⟨rfl, rfl⟩ | ⟨rfl, rfl⟩
      · exact IsiPair.int_tuple (fin _)
      · exact IsiPair.int_str (fin _)
    | str s =>
      obtain ⟨_, t, rfl⟩ := r
      rcases isTyN_eq (n := "str") hi with ⟨rfl, rfl⟩ | ⟨rfl, rfl⟩
      · exact IsiPair.str_tuple (fin _)
      · exact IsiPair.str_str (fin _)
    | tup l =>
      obtain ⟨a, vs, n, rfl, _, ho, _⟩ := r
      rcases isTyN_eq (n := "tuple") hi with ⟨rfl, rfl⟩ | ⟨rfl, rfl⟩
      · exact IsiPair.tuple_tuple ho rfl (fin _)
      · exact IsiPair.tuple_str ho rfl (fin _)
    | lst l => exact absurd ⟨_, rfl⟩ hl
    | _ => cases hi
end
end Mine
end

section
namespace Mine

noncomputable def putsL : List Str → List V → Loc → Loc
  | x :: xs, v :: vs, loc => putsL xs vs ((x, .val v) :: loc)
  | _, _, loc => loc
noncomputable def namesIn : List Expr → Option (List Str)
  | [] => some []
  | e :: es => match nameOf e with
    | some x => (namesIn es).map (x :: ·)
    | none => none
theorem namesIn_cons {e : Expr} {es : List Expr} {ns : List Str} (h : namesIn (e :: es) = some ns) : ∃ x p ms, e = .Name x p ∧ namesIn es = some ms ∧ ns = x :: ms := by
  unfold namesIn at h
  cases hx : nameOf e with
  | none => rw [hx] at h; cases h
  | some x =>
    rw [hx] at h
    obtain ⟨p, rfl⟩ := nameOf_eq hx
    obtain ⟨ms, h1, h2⟩ := Option.map_eq_some_iff.mp h
    exact ⟨x, p, ms, rfl, h1, h2.symm⟩
noncomputable def env0 (sc : List (Str × NameKind)) : Env := { scope := { kind := .function, names := sc, isGenerator := false, isCoroutine := false }, locals := 0, globals := 0, cells := [], qual := "", func := none, code := .none, frame := none, builtins := 0 }
noncomputable def locals (sc : List (Str × NameKind)) (ns : List Str) : Bool := ns.all fun x => sc.lookup x == some .local

section
variable {G : Gd} {md : Md} {A : Around} {env : Env} {m : Str → Option Value} {loc : Loc} {σ σ' : Store} {s s' : Shared} {X : Exn → Prop}

theorem swapped_env {ts : List Expr} {v : Expr} {e1 e2 : Env} (h1 : e1.blockKind = e2.blockKind) (h2 : ∀ x, e1.kindOf x = e2.kindOf x) : swappedStores ts v e1 = swappedStores ts v e2 := by
  have : e1.kindOf = e2.kindOf := funext h2
  unfold swappedStores
  rw [h1, this]
theorem swapped_md {ts : List Expr} {v : Expr} (S : Frm G md A env σ s.heap) : swappedStores ts v env = swappedStores ts v (env0 md.sc) := by
  refine swapped_env ?_ fun x => ?_
  · unfold Env.blockKind; rw [S.kind]; rfl
  · show env.scope.names.lookup x = md.sc.lookup x
    rw [S.names]

theorem locals_get {sc : List (Str × NameKind)} {ns : List Str} (h : locals sc ns = true) : ∀ x ∈ ns, sc.lookup x = some .local := fun x hx => by
  unfold locals at h
  exact beq_iff_eq.mp (List.all_eq_true.mp h x hx)

/-- names get their values, one behind the other -/
theorem puts {E : Value → Shared → Prop} {Qu : Unit → Shared → Prop} : ∀ {ns : List Str} {ts : List (Value → Sem Unit)} {items : List V} {vs : List Value} {m : Str → Option Value} {loc : Loc} {s : Shared},
    St G md A env m loc σ s → (∀ x ∈ ns, md.sc.lookup x = some .local) → RelVs G.P σ s.heap items vs → items.length = ns.length → ts.length = ns.length →
    (∀ (i : Nat) (x : Str) (t : Value → Sem Unit), ns[i]? = some x → ts[i]? = some t → ∀ v Q s, wpAny G.M A (storeName env x v) Q E s → wpAny G.M A (t v) Q E s) →
    (∀ m' s', St G md A env m' (putsL ns items loc) σ s' → AfterL env.locals σ σ s s' → Qu () s') → wpAny G.M A (assignInOrder ts vs) Qu E s
  | [], [], items, vs, m, loc, s, S, _, r, hl, _, _, h => by
    cases items with
    | cons _ _ => cases hl
    | nil => cases r; exact wpAny_pure (h m s S (.refl ..))
  | [], _ :: _, _, _, _, _, _, _, _, _, _, hl, _, _ => by cases hl
  | _ :: _, [], _, _, _, _, _, _, _, _, _, hl, _, _ => by cases hl
  | x :: ns, t :: ts, items, vs, m, loc, s, S, hx, r, hl, ht, hs, h => by
    cases items with
    | nil => cases hl
    | cons y items =>
      obtain ⟨v, ws, rfl, r1, r2⟩ := r
      show wpAny G.M A (do holding ws (t v); assignInOrder ts ws) Qu E s
      refine wpAny_bind (wpAny_holding (hs 0 x t rfl rfl _ _ _ (bind_local S (hx x (List.mem_cons_self ..)) r1 fun s' S' a => ?_)))
      refine puts S' (fun z hz => hx z (List.mem_cons_of_mem _ hz)) (r2.mono fun b o e z => ⟨(a.keep b o e).1 z, (a.dom b o e).1 z⟩) (by simpa using hl) (by simpa using ht) (fun i z u h1 h2 => hs (i + 1) z u (by simpa using h1) (by simpa using h2)) fun m' s'' S'' a' => h m' s'' S'' (a.trans a')

structure NamesL (env : Env) (elts : List Expr) (ns : List Str) : Prop where
  len : (assignEach elts env).length = ns.length
  nos : (assignEach elts env).findIdx? (·.1) = none
  at_ : ∀ (i : Nat) (x : Str) (t : Value → Sem Unit), ns[i]? = some x → ((assignEach elts env).map (·.2))[i]? = some t → ∃ p, t = assign (.Name x p) env
theorem names_len {elts : List Expr} : ∀ {ns : List Str}, namesIn elts = some ns → NamesL env elts ns := by
  induction elts with
  | nil => intro ns h; cases h; exact ⟨rfl, rfl, fun i x t h => by simp at h⟩
  | cons e es ih =>
    intro ns h
    obtain ⟨x, p, ms, rfl, hm, rfl⟩ := namesIn_cons h
    obtain ⟨h1, h2, h3⟩ := ih hm
    have e1 : assignEach (.Name x p :: es) env = (false, assign (.Name x p) env) :: assignEach es env := rfl
    refine ⟨by rw [e1, List.length_cons, h1, List.length_cons], by rw [e1, List.findIdx?_cons]; simpa using h2, fun i y t k1 k2 => ?_⟩
    rw [e1] at k2
    cases i with
    | zero => cases k1; cases k2; exact ⟨p, rfl⟩
    | succ i => exact h3 i y t k1 k2

/-- a tuple's items to names -/
theorem assign_tup {elts : List Expr} {k : Nat} {tp : Pos} {ns : List Str} {items : List V} {v : Value} {E : Value → Shared → Prop} {Qu : Unit → Shared → Prop} (S : St G md A env m loc σ s) (hh : A.handled = none) (hn : namesIn elts = some ns) (hl : locals md.sc ns = true)
    (r : RelV G.P σ s.heap (.tup items) v) (hz : items.length = ns.length) (h : ∀ m' s', St G md A env m' (putsL ns items loc) σ s' → AfterL env.locals σ σ s s' → Qu () s') : wpAny G.M A (assign (.Tuple elts k tp) env v) Qu E s := by
  obtain ⟨a, vs, n, rfl, _, ho, hr⟩ := r
  obtain ⟨h1, h2, h3⟩ := names_len (env := env) hn
  have hlen := hr.length
  rw [Array.length_toList] at hlen
  refine assign_Tuple_tuple hh ⟨_, ho, rfl, n, rfl⟩ (by rw [h1, hlen, hz]) h2 fun h' he => ?_
  obtain ⟨g1, g2⟩ := grow (tk := s.toks) S.sim (h' := h') fun b o e => he b o (Nat.ne_of_lt (Heap.lt_size e)) e
  refine puts (ts := ((assignEach elts env).map (·.2))) (S.after g1 g2) (locals_get hl) (hr.step g1.keep g1.dom) hz (by simpa using h1) (fun i x t k1 k2 v Q s hw => ?_) fun m' s' S' a' => h m' s' S' ((g1.l _).trans a')
  obtain ⟨p, rfl⟩ := h3 i x t k1 k2
  exact wpAny_assign_Name hw

inductive AsTR (ns : List Str) (o : Option (List Str)) (loc : Loc) (Q : Flw → Loc → Store → Prop) (v : V) (σ : Store) : Prop | mk (items : List V) (h : v = .tup items) (hz : items.length = ns.length) (q : Q .next (if o = none then putsL ns items loc else putsL ns.reverse items.reverse loc) σ)
theorem ex_assign_tup {elts : List Expr} {k : Nat} {tp pos : Pos} {value : Expr} {ns : List Str} {o : Option (List Str)} {Q : Flw → Loc → Store → Prop} (hd : md.hd = none) (hn : namesIn elts = some ns) (hl : locals md.sc ns = true) (hw : swappedStores [.Tuple elts k tp] value (env0 md.sc) = pure o) (ho : o = none ∨ o = some ns)
    (h : EvW G md value loc σ (AsTR ns o loc Q) X) (hc : notComp value = true := by rfl) :
    Ex1 G md (.Assign [.Tuple elts k tp] value pos) loc σ Q X := fun A env m s S => by
  have hh : A.handled = none := S.frm.hand.trans hd
  have hw' := (swapped_md S.frm).trans hw
  rcases ho with rfl | rfl
  · refine Assign_Tuple (wpAny_mono (h A env m s S) (fun v s1 q => ?_) fun _ _ z => z.sx S) (by exact swaps_not hc (some (.Tuple elts k tp)) pos.line env) hw'
    obtain ⟨r, σ1, ⟨items, rfl, hz, hq⟩, h2, h3, S1⟩ := S.ev q
    refine assign_tup S1 hh hn hl h2 hz fun m' s' S' a' => ?_
    exact ⟨.next, _, σ1, m', hq, rfl, (h3.l _).trans a', S'.ns, S'.sim, S'.loc⟩
  · refine Assign_Tuple_swapped (wpAny_mono (h A env m s S) (fun v s1 q => ?_) fun _ _ z => z.sx S) (by exact swaps_not hc (some (.Tuple elts k tp)) pos.line env) hw'
    obtain ⟨r, σ1, ⟨items, rfl, hz, hq⟩, h2, h3, S1⟩ := S.ev q
    obtain ⟨a, vs, n, rfl, _, ho, hr⟩ := h2
    have hlen := hr.length
    rw [Array.length_toList] at hlen
    have e1 : ns.length = vs.size := by rw [hlen, hz]
    rw [e1]
    refine unpackItems_tuple hh ⟨_, ho, rfl, n, rfl⟩ fun h' he => ?_
    obtain ⟨g1, g2⟩ := grow (tk := s1.toks) S1.sim (h' := h') fun b o e => he b o (Nat.ne_of_lt (Heap.lt_size e)) e
    refine puts (ns := ns.reverse) (ts := (ns.reverse.map fun n => bindName env n)) (S1.after g1 g2) (fun x hx => locals_get hl x (List.mem_reverse.mp hx)) ((hr.step g1.keep g1.dom).rev) (by simpa using hz) (by simp) (fun i x t k1 k2 v Q s hw => ?_) fun m' s' S' a' => ?_
    · rw [List.getElem?_map, k1] at k2
      cases k2
      exact bindName_ hw
    · exact ⟨.next, _, σ1, m', hq, rfl, ((h3.trans g1).l _).trans a', S'.ns, S'.sim, S'.loc⟩
end
end Mine
end

section
namespace Mine

/-- a step that writes at these places alone, none of them a value's -/
structure WStep (σ : Store) (wr : List Addr) (h h' : Heap) : Prop where
  keep : ∀ b o, b ∉ wr → h.get? b = some o → h'.get? b = some o
  dat : ∀ b o, h.get? b = some o → σ b = none → Dat o → h'.get? b = some o

structure Wk (G : Gd) (tgt : Expr) (I : Addr) (wr : List Addr) (nx : Nat → Store → Option (Option V)) (Sw : Nat → Store → Heap → Prop) : Prop where
  frame : ∀ i σ σ' h h', Sw i σ h → (∀ b o, h.get? b = some o → σ b = none → h'.get? b = some o ∧ σ' b = none) → Sw i σ' h'
  item : ∀ (A : Around) i σ (s : Shared) v (K : Value → Shared → Prop) (Q : Option Value → Shared → Prop) (E : Value → Shared → Prop), A.handled = none → Sim G.P σ s.heap → Sw i σ s.heap → nx i σ = some (some v) →
    (∀ u s', wpAny G.M A (letOwnedTupleGo tgt (.ref I) u) (fun _ s'' => K u s'') E s' → Q (some u) s') →
    (∀ u h' tk, RelV G.P σ h' v u → WStep σ wr s.heap h' → Sw (i + 1) σ h' → K u { s with heap := h', toks := tk }) → wpAny G.M A (pyNext (.ref I)) Q E s
  done : ∀ (A : Around) i σ (s : Shared) (Q : Option Value → Shared → Prop) (E : Value → Shared → Prop), A.handled = none → Sim G.P σ s.heap → Sw i σ s.heap → nx i σ = some none →
    (∀ h' tk, WStep σ wr s.heap h' → Q none { s with heap := h', toks := tk }) → wpAny G.M A (pyNext (.ref I)) Q E s
  off : ∀ i σ h, Sw i σ h → ∀ b ∈ wr, σ b = none
  self : ∀ (A : Around) i σ (s : Shared) (Q : Value → Shared → Prop) (E : Value → Shared → Prop), A.handled = none → Sw i σ s.heap → Q (.ref I) s → wpAny G.M A (pyIter (.ref I)) Q E s

noncomputable def tupNsP (e : Expr) (el : List Expr) : Prop := ∃ k tp, e = .Tuple el k tp
noncomputable def tupEl (e : Expr) : Option (List Expr) := rdv (p := tupNsP e) (if h : e.ctorIdx = 25 then Expr.Tuple.elim e h fun el k tp => some ⟨el, k, tp, rfl⟩ else none)
noncomputable def tupNs (e : Expr) : Option (List Str) := (tupEl e).bind namesIn
theorem tupNs_eq {e : Expr} {ns : List Str} (h : tupNs e = some ns) : ∃ el k tp, e = .Tuple el k tp ∧ namesIn el = some ns := by
  obtain ⟨el, h1, h2⟩ := Option.bind_eq_some_iff.mp h
  obtain ⟨k, tp, h3⟩ := rdv_eq (p := tupNsP e) h1
  exact ⟨el, k, tp, h3, h2⟩
noncomputable def bindU (target : Expr) (v : V) (loc : Loc) : Option Loc := (tupNs target).bind fun ns => (tupOf v).bind fun items => if items.length = ns.length then some (putsL ns items loc) else none
noncomputable def bindT (target : Expr) (v : V) (loc : Loc) : Option Loc := match nameOf target with
  | some x => some ((x, .val v) :: loc)
  | none => bindU target v loc
noncomputable def targetOk (sc : List (Str × NameKind)) (target : Expr) : Bool := match nameOf target with
  | some x => sc.lookup x == some .local
  | none => (tupNs target).any (locals sc)
theorem bindU_eq {target : Expr} {v : V} {loc loc' : Loc} (h : bindU target v loc = some loc') : ∃ ns items, tupNs target = some ns ∧ v = .tup items ∧ items.length = ns.length ∧ putsL ns items loc = loc' := by
  obtain ⟨ns, h1, h2⟩ := Option.bind_eq_some_iff.mp h
  obtain ⟨items, h3, h4⟩ := Option.bind_eq_some_iff.mp h2
  by_cases hz : items.length = ns.length
  · rw [if_pos hz] at h4; cases h4; exact ⟨ns, items, h1, tupOf_eq h3, hz, rfl⟩
  · rw [if_neg hz] at h4; cases h4

/-- behind a loop's body -/
abbrev LpQ (K : Loc → Store → Prop) (Q : Flw → Loc → Store → Prop) : Flw → Loc → Store → Prop := fun fl loc'' σ'' => match fl with
      | .next | .cont => K loc'' σ''
      | .brk => Q .next loc'' σ''
      | .ret r => Q (.ret r) loc'' σ''
noncomputable def ForN (G : Gd) (md : Md) (target : Expr) (body : List Stmt) (nx : Nat → Store → Option (Option V)) (Q : Flw → Loc → Store → Prop) (X : Exn → Prop) : Nat → Nat → Loc → Store → Prop
  | 0, _, _, _ => False
  | k + 1, i, loc, σ => match nx i σ with
    | some none => Q .next loc σ
    | some (some v) => ∃ loc', bindT target v loc = some loc' ∧ ExW G md body loc' σ (LpQ (ForN G md target body nx Q X k (i + 1)) Q) X
    | none => False

theorem ForN_s {G : Gd} {md : Md} {target : Expr} {body : List Stmt} {nx : Nat → Store → Option (Option V)} {Q : Flw → Loc → Store → Prop} {X : Exn → Prop} {k i : Nat} {loc : Loc} {σ : Store} : ForN G md target body nx Q X (k + 1) i loc σ = (match nx i σ with
    | some none => Q .next loc σ
    | some (some v) => ∃ loc', bindT target v loc = some loc' ∧ ExW G md body loc' σ (LpQ (ForN G md target body nx Q X k (i + 1)) Q) X
    | none => False) := rfl
section
variable {G : Gd} {md : Md} {A : Around} {env : Env} {m : Str → Option Value} {loc : Loc} {σ σ' : Store} {s s' : Shared} {X : Exn → Prop}

theorem WStep.rel {P : Params} {wr : List Addr} {h h' : Heap} (w : WStep σ wr h h') {x : V} {v : Value} (r : RelV P σ h x v) : RelV P σ h' x v := r.monoD fun b o e z d => ⟨w.dat b o e z d, z⟩
theorem WStep.rels {P : Params} {wr : List Addr} {h h' : Heap} (w : WStep σ wr h h') {x : List V} {v : List Value} (r : RelVs P σ h x v) : RelVs P σ h' x v := r.monoD fun b o e z d => ⟨w.dat b o e z d, z⟩
theorem WStep.sim {P : Params} {wr : List Addr} {h h' : Heap} (w : WStep σ wr h h') (off : ∀ b ∈ wr, σ b = none) (sim : Sim P σ h) : Sim P σ h' := fun a mo e => by
  obtain ⟨o, ho, c⟩ := sim a mo e
  exact ⟨o, w.keep a o (fun hm => by rw [off a hm] at e; cases e) ho, c.monoD fun b o e z d => ⟨w.dat b o e z d, z⟩⟩
theorem WStep.st {wr : List Addr} {h' : Heap} {tk : Nat} (w : WStep σ wr s.heap h') (off : ∀ b ∈ wr, σ b = none) (nb : ∀ b ∈ wr, G.base.get? b = none) (S : St G md A env m loc σ s) : St G md A env m loc σ { s with heap := h', toks := tk } := by
  obtain ⟨F, hn, sim, hl⟩ := S
  obtain ⟨h1, h2, hn', h3, h4, h5, h6, h7, ⟨fenv, outer, L, f1, f2, f3, f4, f5⟩, h9, h10, h11, h12⟩ := F
  have nm : ∀ b, σ b = some .mark → b ∉ wr := fun b e hm => by rw [off b hm] at e; cases e
  refine ⟨⟨h1, h2, hn', h3, h4, h5, h6, h7, ⟨fenv, outer, L, f1, f2, f3, ?_, f5⟩, fun b o e => ?_, h10, h11, h12⟩, ?_, w.sim off sim, fun x lv e => ?_⟩
  · exact Frames.of' f4 fun b o hb e _ => ⟨o, w.keep b o (nm b (f5 b hb)) e, .refl o⟩
  · exact w.keep b o (fun hm => by rw [nb b hm] at e; cases e) (h9 b o e)
  · exact ns_slots hn fun o e => ⟨o, w.keep _ o (nm _ h11) e, .refl o⟩
  · have z := hl x lv e
    cases lv with
    | val v => obtain ⟨k, u, hu, r⟩ := z; exact ⟨k, u, hu, w.rel r⟩
    | cell c => exact z
theorem WStep.after {wr : List Addr} {h' : Heap} {tk : Nat} {L : Addr} {σ0 : Store} {s0 : Shared} (w : WStep σ wr s.heap h') (nw : ∀ b ∈ wr, s0.heap.get? b = none) (a : AfterL L σ0 σ s0 s) : AfterL L σ0 σ s0 { s with heap := h', toks := tk } := by
  obtain ⟨⟨h, t, rfl⟩, k, d, l⟩ := a
  have nm : ∀ b o, s0.heap.get? b = some o → b ∉ wr := fun b o e hm => by rw [nw b hm] at e; cases e
  refine ⟨⟨_, _, rfl⟩, fun b o e => ⟨fun z => w.keep b o (nm b o e) ((k b o e).1 z), fun z n => ?_⟩, d, fun b o e => let ⟨o', e'⟩ := l b o e; ⟨o', w.keep b o' (nm b o e) e'⟩⟩
  obtain ⟨o', e', q⟩ := (k b o e).2 z n
  exact ⟨o', w.keep b o' (nm b o e) e', q⟩

theorem owned_go {target : Expr} {I : Addr} {v : Value} {o : Obj} {T : String} {E : Value → Shared → Prop} {Qu : Unit → Shared → Prop} (ho : s.heap.get? I = some o) (hc : o.cls = .type T)
    (hT : (["enumerate", "zip", "dict_itemiterator", "dict_reverseitemiterator", "odict_iterator", "itertools.zip_longest", "itertools.pairwise"] : List String).contains T = false) (h : Qu () s) : wpAny G.M A (letOwnedTupleGo target (.ref I) v) Qu E s := by
  have main : wpAny G.M A (do
      let (.ref r, .ref a) := ((Value.ref I), v) | return
      let o ← load r
      match o.cls, o.data with
      | .type n, .fields vs =>
        if ["enumerate", "zip", "dict_itemiterator", "dict_reverseitemiterator", "odict_iterator", "itertools.zip_longest", "itertools.pairwise"].contains n && vs[0]? == some (rawInt a) then
          rule "for.unpacks-the-owned-tuple"
          updateField r 0 .none
      | _, _ => pure () : Sem Unit) Qu E s := by
    cases v with
    | ref a =>
      refine wpAny_bind (wpAny_load ho ?_)
      rw [hc]
      cases o.data <;> try exact wpAny_pure h
      dsimp only
      rw [hT, Bool.false_and]
      exact wpAny_pure h
    | _ => exact wpAny_pure h
  unfold letOwnedTupleGo
  cases target <;> first | exact main | exact wpAny_pure h

theorem assign_T {target : Expr} {v : V} {u : Value} {loc' : Loc} {E : Value → Shared → Prop} {Qu : Unit → Shared → Prop} (S : St G md A env m loc σ s) (hh : A.handled = none) (ht : targetOk md.sc target = true) (hb : bindT target v loc = some loc')
    (r : RelV G.P σ s.heap v u) (h : ∀ m' s', St G md A env m' loc' σ s' → AfterL env.locals σ σ s s' → Qu () s') : wpAny G.M A (assign target env u) Qu E s := by
  unfold bindT at hb
  unfold targetOk at ht
  cases hx : nameOf target with
  | some x =>
    rw [hx] at hb ht
    obtain ⟨p, rfl⟩ := nameOf_eq hx
    cases hb
    exact wpAny_assign_Name (bind_local S (beq_iff_eq.mp ht) r fun s' S' a => h _ s' S' a)
  | none =>
    rw [hx] at hb ht
    obtain ⟨ns, items, hn, rfl, hz, rfl⟩ := bindU_eq hb
    rw [hn] at ht
    obtain ⟨elts, k, tp, rfl, hn⟩ := tupNs_eq hn
    exact assign_tup S hh hn ht r hz h

theorem run_for {target : Expr} {body : List Stmt} {I : Addr} {wr : List Addr} {nx : Nat → Store → Option (Option V)} {Sw : Nat → Store → Heap → Prop} {Q : Flw → Loc → Store → Prop} {σ0 : Store} {s0 : Shared} {loc0 : Loc} {m0 : Str → Option Value} {k i : Nat}
    (W : Wk G target I wr nx Sw) (hd : md.hd = none) (ht : targetOk md.sc target = true) (S0 : St G md A env m0 loc0 σ0 s0) (hw : ∀ b ∈ wr, s0.heap.get? b = none)
    (S : St G md A env m loc σ s) (a : AfterL env.locals σ0 σ s0 s) (st : Sw i σ s.heap) (F : ForN G md target body nx Q X k i loc σ) :
    codeAny G.M A (.forLoop target (.ref I) body [] env) (fun r s' => match r with | .ok f => SQ G env σ0 Q s0 f s' | .error e => cameBackBy G.M A env (SX G env σ0 X s0) e s') s := by
  have hh : A.handled = none := S0.frm.hand.trans hd
  have nb : ∀ b ∈ wr, G.base.get? b = none := fun b hb => by
    cases hq : G.base.get? b with
    | none => rfl
    | some o => have := S0.frm.stays _ _ hq; rw [hw b hb] at this; cases this
  have hL0 : ∃ o, s0.heap.get? env.locals = some o := let ⟨o, _, _, e, _⟩ := S0.ns; ⟨o, e⟩
  have pass := passes_sx (X := X) S0.frm hL0
  refine codeAny_forLoop_any (fun n s' => ∃ σ loc m i, St G md A env m loc σ s' ∧ AfterL env.locals σ0 σ s0 s' ∧ Sw i σ s'.heap ∧ ForN G md target body nx Q X n i loc σ) ?_ k ⟨σ, loc, m, i, S, a, st, F⟩
  rintro n s1 ⟨σ1, loc1, m1, i1, S1, a1, st1, F1⟩
  cases n with
  | zero => exact F1.elim
  | succ n =>
    rw [ForN_s] at F1
    split at F1
    · rename_i hnx
      refine W.done A i1 σ1 s1 _ _ hh S1.sim st1 hnx fun h' tk w => ?_
      refine wpAny_execs_nil ?_
      have S2 := w.st (tk := tk) (W.off _ _ _ st1) nb S1
      exact ⟨.next, loc1, σ1, m1, F1, rfl, w.after hw a1, S2.ns, S2.sim, S2.loc⟩
    · rename_i v hnx
      obtain ⟨loc', hb, hB⟩ := F1
      refine W.item A i1 σ1 s1 v _ _ _ hh S1.sim st1 hnx (fun u s' h => h) fun u h' tk hr w st2 => ?_
      have S2 := w.st (tk := tk) (W.off _ _ _ st1) nb S1
      have a2 := w.after (tk := tk) hw a1
      refine assign_T S2 hh ht hb hr fun m' s3 S3 a3 => ?_
      refine wpAny_mono (hB A env m' s3 S3) (fun f s4 q => ?_) fun e s4 q => pass e s4 ((q.then a3).then a2)
      obtain ⟨fl, loc4, σ4, m4, q1, q2, q3, S4⟩ := S3.sq q
      have st4 : Sw (i1 + 1) σ4 s4.heap := W.frame _ _ _ _ _ st2 fun b o e z => by
        have e3 := (a3.keep b o e).1 z
        exact ⟨(q3.keep b o e3).1 z, (q3.dom b o e3).1 z⟩
      have a4 := (a2.trans a3).trans q3
      cases fl with
      | next => cases q2; exact ⟨n, Nat.lt_succ_self n, σ4, loc4, m4, i1 + 1, S4, a4, st4, q1⟩
      | cont => cases q2; exact ⟨n, Nat.lt_succ_self n, σ4, loc4, m4, i1 + 1, S4, a4, st4, q1⟩
      | brk => cases q2; exact ⟨.next, loc4, σ4, m4, q1, rfl, a4, S4.ns, S4.sim, S4.loc⟩
      | ret r => obtain ⟨w', rfl, hr'⟩ := q2; exact ⟨.ret r, loc4, σ4, m4, q1, ⟨w', rfl, hr'⟩, a4, S4.ns, S4.sim, S4.loc⟩
    · exact F1.elim

/-- what an expression's items are drawn from -/
inductive ItQ (G : Gd) (target : Expr) (σ : Store) (C : (Nat → Store → Option (Option V)) → Store → Prop) (s : Shared) (it : Value) (s2 : Shared) : Prop
  | mk (I : Addr) (wr : List Addr) (nx : Nat → Store → Option (Option V)) (Sw : Nat → Store → Heap → Prop) (σ2 : Store) (h1 : it = .ref I) (h2 : Wk G target I wr nx Sw) (h3 : Sw 0 σ2 s2.heap) (h4 : After σ σ2 s s2) (h5 : Sim G.P σ2 s2.heap) (h6 : ∀ b ∈ wr, s.heap.get? b = none) (h7 : C nx σ2)
noncomputable def IterW (G : Gd) (md : Md) (target : Expr) (e : Expr) (loc : Loc) (σ : Store) (C : (Nat → Store → Option (Option V)) → Store → Prop) (X : Exn → Prop) : Prop :=
  ∀ A env m s, A.handled = none → St G md A env m loc σ s → wpAny G.M A (eval e env) (fun x s1 => wpAny G.M A (pyIter x) (ItQ G target σ C s) (EX G σ X s) s1) (EX G σ X s) s

abbrev ForQ (G : Gd) (md : Md) (target : Expr) (body : List Stmt) (Q : Flw → Loc → Store → Prop) (X : Exn → Prop) (loc : Loc) : (Nat → Store → Option (Option V)) → Store → Prop := fun nx σ1 => ∃ k, ForN G md target body nx Q X k 0 loc σ1
theorem ex_for {target iter : Expr} {body : List Stmt} {pos : Pos} {Q : Flw → Loc → Store → Prop} (hd : md.hd = none) (ht : targetOk md.sc target = true)
    (h : IterW G md target iter loc σ (ForQ G md target body Q X loc) X) (hs : ∀ env x, foldedSetIterable iter env x = pure x := by intro _ _; rfl) : Ex1 G md (.For target iter body [] pos) loc σ Q X := fun A env m s S => by
  refine wpAny_For (wpAny_mono (h A env m s (S.frm.hand.trans hd) S) (fun x s1 q => wpAny_mono q (fun it s2 q2 => ?_) fun _ _ z => z.sx S) fun _ _ z => z.sx S) (hs env)
  obtain ⟨I, wr, nx, Sw, σ2, rfl, W, st, aft, sim, nw, k, F⟩ := q2
  exact run_for W hd ht S nw (S.after aft sim) (aft.l _) st F

/-- the loop over a list that is told -/
noncomputable def ForL (G : Gd) (md : Md) (target : Expr) (body : List Stmt) (Q : Flw → Loc → Store → Prop) (X : Exn → Prop) : List V → Loc → Store → Prop
  | [], loc, σ => Q .next loc σ
  | v :: vs, loc, σ => ∃ loc', bindT target v loc = some loc' ∧ ExW G md body loc' σ (LpQ (ForL G md target body Q X vs) Q) X

theorem ExW.mono {ss : List Stmt} {Q Q' : Flw → Loc → Store → Prop} (h : ExW G md ss loc σ Q X) (hQ : ∀ f l s, Q f l s → Q' f l s) : ExW G md ss loc σ Q' X := fun A env m s S =>
  wpAny_mono (h A env m s S) (fun _ _ q => by
    obtain ⟨fl, loc', σ', m', h1, h2, h3, h4⟩ := q
    exact ⟨fl, loc', σ', m', hQ _ _ _ h1, h2, h3, h4⟩) fun _ _ z => z
theorem forN_of {target : Expr} {body : List Stmt} {Q : Flw → Loc → Store → Prop} (xs : List V) (k : Nat) : ∀ (i : Nat) (loc : Loc) (σ : Store), i + k = xs.length → ForL G md target body Q X (xs.drop i) loc σ → ForN G md target body (fun i _ => some xs[i]?) Q X (k + 1) i loc σ := by
  induction k with
  | zero =>
    intro i loc σ hk h
    have hk' : xs.length ≤ i := Nat.le_of_eq hk.symm
    rw [List.drop_eq_nil_of_le hk'] at h
    rw [ForN_s, List.getElem?_eq_none hk']
    exact h
  | succ k ih =>
    intro i loc σ hk h
    have hi : i < xs.length := by lia
    rw [List.drop_eq_getElem_cons hi] at h
    obtain ⟨loc', hb, hB⟩ := h
    rw [ForN_s, List.getElem?_eq_getElem hi]
    refine ⟨loc', hb, hB.mono fun fl l s q => ?_⟩
    cases fl with
    | next => exact ih (i + 1) l s (by lia) q
    | cont => exact ih (i + 1) l s (by lia) q
    | brk => exact q
    | ret r => exact q
theorem forL_n {target : Expr} {body : List Stmt} {Q : Flw → Loc → Store → Prop} {xs : List V} {loc : Loc} {σ : Store} (h : ForL G md target body Q X xs loc σ) : ∃ k, ForN G md target body (fun i _ => some xs[i]?) Q X k 0 loc σ :=
  ⟨xs.length + 1, forN_of xs xs.length 0 loc σ (by lia) h⟩
end
end Mine
end

section
namespace Mine

noncomputable def charsV (s : Str) : List V := s.cps.toList.map fun c => .str ⟨#[c]⟩
noncomputable def rangeV (n : Nat) : List V := (List.range n).map fun (i : Nat) => V.int i
/-- what the items of a value are -/
inductive Iter (σ : Store) : V → (Nat → Store → Option (Option V)) → Prop
  | lst (l : List V) : Iter σ (.lst l) (fun i _ => some l[i]?)
  | tup (l : List V) : Iter σ (.tup l) (fun i _ => some l[i]?)
  | str (s : Str) (h : s.cps.all (· < 128) = true) : Iter σ (.str s) (fun i _ => some (charsV s)[i]?)
  | sdc (ks : List Str) (vs : List V) (h : ks.Nodup) (hz : ks.length = vs.length) : Iter σ (.sdc ks vs) (fun i _ => some (ks.map V.str)[i]?)
  | idc (ks : List Int) (vs : List V) (h : ks.Nodup) (hz : ks.length = vs.length) : Iter σ (.idc ks vs) (fun i _ => some (ks.map V.int)[i]?)
  | rng (n : Nat) (h : n ≤ 2 ^ 60) : Iter σ (.rng n) (fun i _ => some (rangeV n)[i]?)
  | live (a : Addr) (l : List V) (h : σ a = some (.lst l)) : Iter σ (.ref a) (fun i σ' => match σ' a with | some (.lst l') => some l'[i]? | _ => none)

noncomputable def around0 : Around := {}

section
variable {G : Gd} {tgt : Expr} {md : Md} {A : Around} {env : Env} {m : Str → Option Value} {loc : Loc} {σ σ' : Store} {s s' : Shared} {X : Exn → Prop}

theorem Wk.of {I : Addr} {fp wr : List Addr} {n : Nat} {P : Nat → Value → Prop} {Sw : Nat → Heap → Prop} {xs : List V} {Rel : Store → Heap → Prop} (W : ∀ A : Around, A.handled = none → Walks G.prog G.w A I fp wr n P Sw) (hn : n = xs.length)
    (hlive : ∀ i h, Sw i h → ∀ b ∈ fp, ∃ o, h.get? b = some o) (hwr : ∀ i h, Sw i h → ∀ b ∈ wr, ∀ o, h.get? b = some o → ¬ Dat o)
    (hRel : ∀ σ σ' h h', Rel σ h → (∀ b o, h.get? b = some o → σ b = none → Dat o → h'.get? b = some o ∧ σ' b = none) → Rel σ' h')
    (hP : ∀ σ h i u v, Rel σ h → P i u → xs[i]? = some v → RelV G.P σ h v u)
    (hown : ∀ i h, Sw i h → ∃ o T, h.get? I = some o ∧ o.cls = .type T ∧ (["enumerate", "zip", "dict_itemiterator", "dict_reverseitemiterator", "odict_iterator", "itertools.zip_longest", "itertools.pairwise"] : List String).contains T = false) :
    Wk G tgt I wr (fun i _ => some xs[i]?) (fun i σ h => i ≤ n ∧ Sw i h ∧ Rel σ h ∧ ∀ b ∈ fp, σ b = none) where
  frame := fun i σ σ' h h' ⟨hi, h1, h2, h3⟩ k => ⟨hi, (W around0 rfl).frame i h h' h1 fun b hb o e => (k b o e (h3 b hb)).1, hRel _ _ _ _ h2 fun b o e z _ => k b o e z, fun b hb => by
    obtain ⟨o, e⟩ := hlive i h h1 b hb
    exact (k b o e (h3 b hb)).2⟩
  item := fun A i σ s v K Q E hh sim ⟨hi, h1, h2, h3⟩ hnx hgo hQ => by
    simp only [Option.some.injEq] at hnx
    have hlt : i < n := by
      rw [hn]
      by_cases hl : i < xs.length
      · exact hl
      · rw [List.getElem?_eq_none (by lia)] at hnx; cases hnx
    refine (W A hh).item i s Q E hlt h1 fun u h' tk hp h1' hk => ?_
    have w : WStep σ wr s.heap h' := ⟨hk, fun b o e z d => hk b o (fun hm => hwr i _ h1 b hm o e d) e⟩
    have h2' := hRel _ σ _ h' h2 fun b o e z d => ⟨w.dat b o e z d, z⟩
    obtain ⟨o, T, ho, hc, hT⟩ := hown _ _ h1'
    exact hgo u _ (owned_go (s := { s with heap := h', toks := tk }) ho hc hT (hQ u h' tk (hP _ _ _ _ _ h2' hp hnx) w ⟨hlt, h1', h2', h3⟩))
  done := fun A i σ s Q E hh sim ⟨hi, h1, h2, h3⟩ hnx hQ => by
    simp only [Option.some.injEq] at hnx
    have hge : i = n := by
      have := List.getElem?_eq_none_iff.mp hnx
      lia
    subst hge
    exact (W A hh).done s Q E h1 fun h' tk hk => hQ h' tk ⟨hk, fun b o e z d => hk b o (fun hm => hwr _ _ h1 b hm o e d) e⟩
  off := fun i σ h ⟨_, _, _, h3⟩ b hb => h3 b ((W around0 rfl).sub b hb)
  self := fun A i σ s Q E hh ⟨_, h1, _⟩ hq => (W A hh).self i s Q E h1 hq

theorem not_dat {o : Obj} {T : String} (h : o.cls = .type T) (h1 : T ≠ "tuple" := by decide) (h2 : T ≠ "list" := by decide) (h3 : T ≠ "dict" := by decide) (h4 : T ≠ "range" := by decide) : ¬ Dat o := by
  rintro (d | d | d | ⟨C, d⟩ | d) <;> rw [h] at d <;> cases d
  · exact h1 rfl
  · exact h2 rfl
  · exact h3 rfl
  · exact h4 rfl

theorem wk_list {I ax : Addr} (hne : ax ≠ I) (items : Array Value) (xs : List V) (hz : items.size = xs.length) : Wk G tgt I [I] (fun i _ => some xs[i]?) (fun i σ h => i ≤ items.size ∧ (h.IsListIter I ax i ∧ h.IsList ax items) ∧ RelVs G.P σ h xs items.toList ∧ ∀ b ∈ [I, ax], σ b = none) :=
  Wk.of (fun A hh => Walks.list hh I ax hne items) hz
    (fun i h st b hb => by
      rcases List.mem_cons.mp hb with rfl | hb
      · obtain ⟨o, ho, _⟩ := st.1; exact ⟨o, ho⟩
      · obtain ⟨o, ho, _⟩ := st.2
        have := List.mem_singleton.mp hb
        subst this; exact ⟨o, ho⟩)
    (fun i h st b hb o e => by
      have := List.mem_singleton.mp hb; subst this
      obtain ⟨o', ho, hc, _⟩ := st.1
      rw [ho] at e; cases e; exact not_dat hc)
    (fun σ σ' h h' r k => r.monoD k)
    (fun σ h i u v r hp hx => by
      obtain ⟨w, hw, q⟩ := r.get i hx
      rw [Array.getElem?_toList, hp] at hw
      cases hw; exact q)
    (fun i h st => by obtain ⟨o, ho, hc, _⟩ := st.1; exact ⟨o, _, ho, hc, by decide⟩)
theorem wk_tuple {I ax : Addr} (hne : ax ≠ I) (items : Array Value) (xs : List V) (hz : items.size = xs.length) : Wk G tgt I [I] (fun i _ => some xs[i]?) (fun i σ h => i ≤ items.size ∧ (h.IsTupleIter I ax i ∧ h.IsTuple ax items) ∧ RelVs G.P σ h xs items.toList ∧ ∀ b ∈ [I, ax], σ b = none) :=
  Wk.of (fun A hh => Walks.tuple hh I ax hne items) hz
    (fun i h st b hb => by
      rcases List.mem_cons.mp hb with rfl | hb
      · obtain ⟨o, ho, _⟩ := st.1; exact ⟨o, ho⟩
      · obtain ⟨o, ho, _⟩ := st.2
        have := List.mem_singleton.mp hb
        subst this; exact ⟨o, ho⟩)
    (fun i h st b hb o e => by
      have := List.mem_singleton.mp hb; subst this
      obtain ⟨o', ho, hc, _⟩ := st.1
      rw [ho] at e; cases e; exact not_dat hc)
    (fun σ σ' h h' r k => r.monoD k)
    (fun σ h i u v r hp hx => by
      obtain ⟨w, hw, q⟩ := r.get i hx
      rw [Array.getElem?_toList, hp] at hw
      cases hw; exact q)
    (fun i h st => by obtain ⟨o, ho, hc, _⟩ := st.1; exact ⟨o, _, ho, hc, by decide⟩)
theorem wk_str {I : Addr} {x : Str} {t : Tok} (hf : Fit x) : Wk G tgt I [I] (fun i _ => some (charsV x)[i]?) (fun i σ h => i ≤ x.cps.size ∧ h.IsStrIter I "str_ascii_iterator" x t i ∧ True ∧ ∀ b ∈ [I], σ b = none) :=
  Wk.of (Rel := fun _ _ => True) (fun A hh => Walks.strAscii hh I x t) (by simp [charsV])
    (fun i h st b hb => by
      have := List.mem_singleton.mp hb; subst this
      obtain ⟨o, ho, _⟩ := st; exact ⟨o, ho⟩)
    (fun i h st b hb o e => by
      have := List.mem_singleton.mp hb; subst this
      obtain ⟨o', ho, hc, _⟩ := st
      rw [ho] at e; cases e; exact not_dat hc)
    (fun _ _ _ _ _ _ => trivial)
    (fun σ h i u v _ hp hx => by
      obtain ⟨c, tk, hc, rfl⟩ := hp
      unfold charsV at hx
      rw [List.getElem?_map, Array.getElem?_toList, hc] at hx
      cases hx
      refine ⟨⟨?_, by show 1 ≤ 2 ^ 20; decide⟩, tk, rfl⟩
      have := hf.1
      unfold PyData.strOk at this ⊢
      have := Array.all_eq_true'.mp this c (Array.mem_of_getElem? hc)
      simpa using this)
    (fun i h st => by obtain ⟨o, ho, hc, _⟩ := st; exact ⟨o, _, ho, hc, by decide⟩)
theorem wk_range {I : Addr} {n : Nat} : Wk G tgt I [I] (fun i _ => some (rangeV n)[i]?) (fun i σ h => i ≤ n ∧ IsRangeIter h I (0 + (i : Nat) * 1) ((n : Int) - (i : Nat)) 1 ∧ True ∧ ∀ b ∈ [I], σ b = none) :=
  Wk.of (Rel := fun _ _ => True) (fun A hh => Walks.range hh I 0 1 n) (by simp [rangeV])
    (fun i h st b hb => by
      have := List.mem_singleton.mp hb; subst this
      exact ⟨_, st⟩)
    (fun i h st b hb o e => by
      have := List.mem_singleton.mp hb; subst this
      have e' : h.get? b = _ := st
      rw [e'] at e; cases e; exact not_dat rfl)
    (fun _ _ _ _ _ _ => trivial)
    (fun σ h i u v _ hp hx => by
      obtain ⟨tk, rfl⟩ := hp
      unfold rangeV at hx
      rw [List.getElem?_map] at hx
      obtain ⟨j, hj, rfl⟩ := Option.map_eq_some_iff.mp hx
      have : j = i := by
        rw [List.getElem?_range] at hj
        · cases hj; rfl
        · have := (List.getElem?_eq_some_iff.mp hj).1
          simpa using this
      subst this
      exact ⟨tk, by simp⟩)
    (fun i h st => ⟨_, _, st, rfl, by decide⟩)

theorem ks_pairs {P : Params} (hP : P = G.w.params) : ∀ {ks : List Str} {es : List DictEntry}, KS P ks es → Pairs (PySem.strKind G.prog G.w) es (ks.zip (es.map (·.val)))
  | [], _, h => by cases h; exact .nil
  | k :: ks, _, h => by
    obtain ⟨e, es, t, rfl, h1, h2, hf, h3⟩ := h
    exact .cons (by rw [h1]; simp [PySem.strKind, Value.isStrOf]) rfl (ks_pairs hP h3)
theorem ki_pairs : ∀ {ks : List Int} {es : List DictEntry}, KI ks es → Pairs (PySem.intKind G.prog G.w) es (ks.zip (es.map (·.val)))
  | [], _, h => by cases h; exact .nil
  | k :: ks, _, h => by
    obtain ⟨e, es, t, rfl, h1, h2, h3⟩ := h
    exact .cons (by rw [h1]; simp [PySem.intKind, Value.isInt]) rfl (ki_pairs h3)
theorem ks_len {P : Params} : ∀ {ks : List Str} {es : List DictEntry}, KS P ks es → es.length = ks.length
  | [], _, h => by cases h; rfl
  | k :: ks, _, h => by obtain ⟨e, es, t, rfl, _, _, _, h3⟩ := h; simp [ks_len h3]
theorem ki_len : ∀ {ks : List Int} {es : List DictEntry}, KI ks es → es.length = ks.length
  | [], _, h => by cases h; rfl
  | k :: ks, _, h => by obtain ⟨e, es, t, rfl, _, _, h3⟩ := h; simp [ki_len h3]

theorem wk_keys {K : Type} [DecidableEq K] {knd : PySem.KeyKind G.prog G.w K} {I d : Addr} (hne : d ≠ I) (kvs : List (K × Value)) (ep : Nat) (xs : List V) (hz : kvs.length = xs.length)
    (hP : ∀ σ h (i : Nat) u v, (∃ k x, kvs[i]? = some (k, x) ∧ knd.is k u = true) → xs[i]? = some v → RelV G.P σ h v u) :
    Wk G tgt I [I] (fun i _ => some xs[i]?) (fun i σ h => i ≤ kvs.length ∧ (h.IsKeyIter I d i kvs.length ep ∧ h.DictAt knd d kvs ep) ∧ True ∧ ∀ b ∈ [I, d], σ b = none) :=
  Wk.of (Rel := fun _ _ => True) (fun A hh => Walks.dictKeys hh I d hne kvs ep) hz
    (fun i h st b hb => by
      rcases List.mem_cons.mp hb with rfl | hb
      · obtain ⟨o, ho, _⟩ := st.1; exact ⟨o, ho⟩
      · obtain ⟨o, _, ho, _⟩ := st.2
        have := List.mem_singleton.mp hb
        subst this; exact ⟨o, ho⟩)
    (fun i h st b hb o e => by
      have := List.mem_singleton.mp hb; subst this
      obtain ⟨o', ho, hc, _⟩ := st.1
      rw [ho] at e; cases e; exact not_dat hc)
    (fun _ _ _ _ _ _ => trivial)
    (fun σ h i u v _ hp hx => hP σ h i u v hp hx)
    (fun i h st => by obtain ⟨o, ho, hc, _⟩ := st.1; exact ⟨o, _, ho, hc, by decide⟩)

theorem wk_mut {I a : Addr} (hne : a ≠ I) : Wk G tgt I [I] (fun i σ' => match σ' a with | some (.lst l') => some l'[i]? | _ => none) (fun i σ h => h.IsListIter I a i ∧ σ I = none) where
  frame := fun i σ σ' h h' ⟨h1, h2⟩ k => by
    obtain ⟨o, ho, r⟩ := h1
    obtain ⟨k1, k2⟩ := k I o ho h2
    exact ⟨⟨o, k1, r⟩, k2⟩
  item := fun A i σ s v K Q E hh sim ⟨h1, h2⟩ hnx hgo hQ => by
    split at hnx
    · rename_i l hl
      simp only [Option.some.injEq] at hnx
      obtain ⟨o, ho, vs, n, rfl, hr⟩ := sim a _ hl
      obtain ⟨u, hu, r⟩ := hr.get i hnx
      refine wpAny_pyNext_list_item h1 ⟨_, ho, rfl, n, rfl⟩ (x := u) (by simpa using hu) fun h' hit hs => ?_
      have w : WStep σ [I] s.heap h' := ⟨fun b o hb e => hs.extBut b o (fun h => hb (by simp [h])) e, fun b o e z d => by
        by_cases hb : b = I
        · subst hb
          obtain ⟨o', ho', hc, _⟩ := h1
          rw [ho'] at e; cases e; exact absurd d (not_dat hc)
        · exact hs.extBut b o hb e⟩
      obtain ⟨o', ho', hc', _⟩ := id hit
      exact hgo u _ (owned_go (s := { s with heap := h' }) ho' hc' (by decide) (hQ u h' s.toks (w.rel r) w ⟨hit, h2⟩))
    · cases hnx
  done := fun A i σ s Q E hh sim ⟨h1, h2⟩ hnx hQ => by
    split at hnx
    · rename_i l hl
      simp only [Option.some.injEq] at hnx
      obtain ⟨o, ho, vs, n, rfl, hr⟩ := sim a _ hl
      have hlen := hr.length
      rw [Array.length_toList] at hlen
      refine wpAny_pyNext_list_end hh h1 ⟨_, ho, rfl, n, rfl⟩ (Array.getElem?_eq_none (by have := List.getElem?_eq_none_iff.mp hnx; lia)) fun h' he => ?_
      refine hQ h' s.toks ⟨fun b o hb e => he b o (fun h => hb (by simp [h])) e, fun b o e z d => ?_⟩
      by_cases hb : b = I
      · subst hb
        obtain ⟨o', ho', hc, _⟩ := h1
        rw [ho'] at e; cases e; exact absurd d (not_dat hc)
      · exact he b o hb e
    · cases hnx
  off := fun i σ h ⟨_, h2⟩ b hb => by have := List.mem_singleton.mp hb; subst this; exact h2
  self := fun A i σ s Q E hh ⟨h1, _⟩ hq => wpAny_pyIter_listiter h1 hq
end
end Mine
end

section
namespace Mine

section
variable {G : Gd} {tgt : Expr} {md : Md} {A : Around} {env : Env} {m : Str → Option Value} {loc : Loc} {σ σ' : Store} {s s' : Shared} {X : Exn → Prop}

theorem bi_range {n : Int} {Q : V → Store → Prop} (hq : Q (.rng n) σ) : CallW G 0 (.type "range") [.int n] σ Q X := by
  intro md A env m loc s vals hmd hhd S hr
  obtain ⟨v, rfl, t, rfl⟩ := one_arg hr
  refine call_range_1 ?_
  obtain ⟨g1, g2⟩ := grow (tk := s.toks + 1 + 1) S.sim (push_keeps s.heap { cls := .type "range", data := .fields #[.int 0 s.toks, .int n t, .int 1 (s.toks + 1)] })
  exact ⟨_, σ, hq, ⟨_, _, _, _, rfl, fresh_none S.sim (free_size s.heap), Heap.get?_push_size _ rfl⟩, g1, g2⟩

theorem size_ne {h : Heap} {a : Addr} {o : Obj} (e : h.get? a = some o) : a ≠ h.objs.size := Nat.ne_of_lt (Heap.lt_size e)
theorem off1 {h : Heap} (sim : Sim G.P σ h) : ∀ b ∈ [h.objs.size], σ b = none := fun b hb => by
  have := List.mem_singleton.mp hb
  subst this
  cases hq : σ h.objs.size with
  | none => rfl
  | some mo => obtain ⟨o, ho, _⟩ := sim _ _ hq; rw [free_size] at ho; cases ho

/-- drawing from a value -/
theorem iter_open {v : V} {u : Value} {nx : Nat → Store → Option (Option V)} {K : Value → Shared → Prop} {E : Value → Shared → Prop} (it : Iter σ v nx) (hh : A.handled = none) (sim : Sim G.P σ s.heap) (r : RelV G.P σ s.heap v u)
    (h : ∀ I Sw s2, Wk G tgt I [I] nx Sw → Sw 0 σ s2.heap → After σ σ s s2 → Sim G.P σ s2.heap → s.heap.get? I = none → K (.ref I) s2) : wpAny G.M A (pyIter u) K E s := by
  have hI : ∀ o, (s.heap.push o).get? s.heap.objs.size = some o ∨ o.isFreed = true := fun o => by
    cases hf : o.isFreed with
    | true => exact .inr rfl
    | false => exact .inl (Heap.get?_push_size _ hf)
  have fin : ∀ (o : Obj) Sw, Wk G tgt s.heap.objs.size [s.heap.objs.size] nx Sw → Sw 0 σ (s.heap.push o) → K (.ref s.heap.objs.size) { s with heap := s.heap.push o, toks := s.toks } := fun o Sw W st => by
    obtain ⟨g1, g2⟩ := grow (tk := s.toks) sim (push_keeps s.heap o)
    exact h _ Sw { s with heap := s.heap.push o, toks := s.toks } W st g1 g2 (free_size _)
  have of1 := off1 sim
  cases it with
  | lst l =>
    obtain ⟨a, vs, n, rfl, hs, ho, hr⟩ := r
    have hT : s.heap.IsList a vs := ⟨_, ho, rfl, n, rfl⟩
    have hlen := hr.length
    rw [Array.length_toList] at hlen
    refine wpAny_pyIter_list hT (fin _ _ (wk_list (size_ne ho) vs l hlen) ⟨Nat.zero_le _, ⟨⟨_, Heap.get?_push_size _ rfl, rfl, rfl⟩, hT.push _⟩, hr.mono fun b o e z => ⟨push_keeps _ _ b o e, z⟩, fun b hb => ?_⟩)
    rcases List.mem_cons.mp hb with rfl | hb
    · exact of1 _ (List.mem_singleton.mpr rfl)
    · have := List.mem_singleton.mp hb; subst this; exact hs
  | tup l =>
    obtain ⟨a, vs, n, rfl, hs, ho, hr⟩ := r
    have hT : IsTup s.heap a vs := ⟨_, ho, rfl, n, rfl⟩
    have hlen := hr.length
    rw [Array.length_toList] at hlen
    refine iter_tuple hT (fin _ _ (wk_tuple (size_ne ho) vs l hlen) ⟨Nat.zero_le _, ⟨⟨_, Heap.get?_push_size _ rfl, rfl, rfl⟩, hT.push _⟩, hr.mono fun b o e z => ⟨push_keeps _ _ b o e, z⟩, fun b hb => ?_⟩)
    rcases List.mem_cons.mp hb with rfl | hb
    · exact of1 _ (List.mem_singleton.mpr rfl)
    · have := List.mem_singleton.mp hb; subst this; exact hs
  | str x ha =>
    obtain ⟨hf, t, rfl⟩ := r
    exact wpAny_pyIter_ascii ha (fin _ _ (wk_str hf) ⟨Nat.zero_le _, ⟨_, Heap.get?_push_size _ rfl, rfl, rfl⟩, trivial, of1⟩)
  | rng n hn =>
    obtain ⟨a, t, u, w, rfl, hs, ho⟩ := r
    have hsz : Builtin.Range.rangeSize 0 (n : Int) 1 = n := by
      rw [PyProof.Rows.rangeSize_nat]; lia
    refine wpAny_pyIter_range (a := 0) (b := n) (c := 1) ho ?_ ?_
    · unfold Builtin.Range.small Builtin.Range.rangeFitsLong
      rw [hsz]
      simp
      lia
    · rw [hsz]
      refine fin _ _ (wk_range (n := n)) ⟨Nat.zero_le _, ?_, trivial, of1⟩
      show (s.heap.push _).get? _ = _
      rw [Heap.get?_push_size _ rfl]
      simp [rawInt]
  | sdc ks vs hnd hz =>
    obtain ⟨a, es, n, rfl, ⟨hs, hy⟩, ho, hk, hv⟩ := r
    have hl := ks_len hk
    have hm : s.heap.DictAt (PySem.strKind G.prog G.w) a (ks.zip (es.toList.map (·.val))) n := ⟨_, es, ho, ⟨rfl, rfl, rfl⟩, rfl, fun e he => by
      obtain ⟨k, t, h1, h2, _⟩ := hk.keys e (Array.mem_toList_iff.mpr he)
      exact ⟨k, by rw [h1]; simp [PySem.strKind, Value.isStrOf], h2⟩, ks_pairs rfl hk, by rw [List.map_fst_zip (by simp; simpa using Nat.le_of_eq hl.symm)]; exact hnd⟩
    have hlen : (ks.zip (es.toList.map (·.val))).length = ks.length := by rw [List.length_zip, List.length_map, hl, Nat.min_self]
    refine wpAny_pyIter_dict hy hm (fin _ _ (wk_keys (knd := PySem.strKind G.prog G.w) (size_ne ho) _ n (ks.map V.str) (by rw [hlen, List.length_map]) fun σ h i u v hp hx => ?_) ⟨Nat.zero_le _, ⟨⟨_, Heap.get?_push_size _ rfl, rfl, rfl⟩, ?_⟩, trivial, fun b hb => ?_⟩)
    · obtain ⟨k, x, hkx, hu⟩ := hp
      obtain ⟨t, rfl⟩ := Value.isStrOf_shape hu
      rw [List.getElem?_map] at hx
      obtain ⟨j, hj, rfl⟩ := Option.map_eq_some_iff.mp hx
      obtain ⟨q1, q2⟩ := List.getElem?_zip_eq_some.mp hkx
      rw [q1] at hj; cases hj
      have hm := List.mem_of_getElem? q1
      have : ∀ {ks : List Str} {es : List DictEntry}, KS G.P ks es → ∀ k ∈ ks, Fit k := by
        intro ks
        induction ks with
        | nil => intro es _ k hk; cases hk
        | cons k0 ks ih =>
          intro es h k hk
          obtain ⟨e, es, t, rfl, _, _, hf, h3⟩ := h
          rcases List.mem_cons.mp hk with rfl | hk
          · exact hf
          · exact ih h3 k hk
      exact ⟨this hk k hm, t, rfl⟩
    · exact hm.at' fun o e => push_keeps _ _ a o e
    · rcases List.mem_cons.mp hb with rfl | hb
      · exact of1 _ (List.mem_singleton.mpr rfl)
      · have := List.mem_singleton.mp hb; subst this; exact hs
  | idc ks vs hnd hz =>
    obtain ⟨a, es, n, rfl, ⟨hs, hy⟩, ho, hk, hv⟩ := r
    have hl := ki_len hk
    have hm : s.heap.DictAt (PySem.intKind G.prog G.w) a (ks.zip (es.toList.map (·.val))) n := ⟨_, es, ho, ⟨rfl, rfl, rfl⟩, rfl, fun e he => by
      obtain ⟨k, t, h1, h2⟩ := hk.keys e (Array.mem_toList_iff.mpr he)
      exact ⟨k, by rw [h1]; simp [PySem.intKind, Value.isInt], h2⟩, ki_pairs hk, by rw [List.map_fst_zip (by simp; simpa using Nat.le_of_eq hl.symm)]; exact hnd⟩
    have hlen : (ks.zip (es.toList.map (·.val))).length = ks.length := by rw [List.length_zip, List.length_map, hl, Nat.min_self]
    refine wpAny_pyIter_dict hy hm (fin _ _ (wk_keys (knd := PySem.intKind G.prog G.w) (size_ne ho) _ n (ks.map V.int) (by rw [hlen, List.length_map]) fun σ h i u v hp hx => ?_) ⟨Nat.zero_le _, ⟨⟨_, Heap.get?_push_size _ rfl, rfl, rfl⟩, ?_⟩, trivial, fun b hb => ?_⟩)
    · obtain ⟨k, x, hkx, hu⟩ := hp
      obtain ⟨t, rfl⟩ := Value.isInt_shape hu
      rw [List.getElem?_map] at hx
      obtain ⟨j, hj, rfl⟩ := Option.map_eq_some_iff.mp hx
      obtain ⟨q1, q2⟩ := List.getElem?_zip_eq_some.mp hkx
      rw [q1] at hj; cases hj
      exact ⟨t, rfl⟩
    · exact hm.at' fun o e => push_keeps _ _ a o e
    · rcases List.mem_cons.mp hb with rfl | hb
      · exact of1 _ (List.mem_singleton.mpr rfl)
      · have := List.mem_singleton.mp hb; subst this; exact hs
  | live a l hl =>
    cases r
    obtain ⟨o, ho, vs, n, rfl, hr⟩ := sim a _ hl
    exact wpAny_pyIter_list ⟨_, ho, rfl, n, rfl⟩ (fin _ _ (wk_mut (size_ne ho)) ⟨⟨_, Heap.get?_push_size _ rfl, rfl, rfl⟩, of1 _ (List.mem_singleton.mpr rfl)⟩)

inductive IterR (C : (Nat → Store → Option (Option V)) → Store → Prop) (v : V) (σ1 : Store) : Prop | mk (nx : Nat → Store → Option (Option V)) (h : Iter σ1 v nx) (q : C nx σ1)
theorem iter_ev {e : Expr} {C : (Nat → Store → Option (Option V)) → Store → Prop} (h : EvW G md e loc σ (IterR C) X) : IterW G md tgt e loc σ C X := fun A env m s hh S => by
  refine wpAny_mono (h A env m s S) (fun v s1 q => ?_) fun _ _ z => z
  obtain ⟨r, σ1, ⟨nx, it, hC⟩, h2, h3, S1⟩ := S.ev q
  refine iter_open (tgt := tgt) it hh S1.sim h2 fun I Sw s2 W st a2 sim2 hI => ?_
  refine ⟨I, [I], nx, Sw, σ1, rfl, W, st, h3.trans a2, sim2, fun b hb => ?_, hC⟩
  have := List.mem_singleton.mp hb; subst this
  cases hq : s.heap.get? b with
  | none => rfl
  | some o => obtain ⟨o', e'⟩ := h3.live b o hq; rw [hI] at e'; cases e'
end
end Mine
end

section
namespace Mine

noncomputable def WhlN (G : Gd) (md : Md) (test : Expr) (body : List Stmt) (Q : Flw → Loc → Store → Prop) (X : Exn → Prop) : Nat → Loc → Store → Prop
  | 0, _, _ => False
  | k + 1, loc, σ => TsW G md test loc σ (fun b σ1 => if b = true then ExW G md body loc σ1 (LpQ (WhlN G md test body Q X k) Q) X else Q .next loc σ1) X

section
variable {G : Gd} {md : Md} {A : Around} {env : Env} {m : Str → Option Value} {loc : Loc} {σ σ' : Store} {s s' : Shared} {X : Exn → Prop}

theorem run_while {test : Expr} {body : List Stmt} {Q : Flw → Loc → Store → Prop} {σ0 : Store} {s0 : Shared} (pass : PassesOwn G.M A env (SX G env σ0 X s0)) (k : Nat) : ∀ {m : Str → Option Value} {loc : Loc} {σ : Store} {s : Shared},
    St G md A env m loc σ s → AfterL env.locals σ0 σ s0 s → WhlN G md test body Q X k loc σ → WhlRest G.prog G.w A (SX G env σ0 X s0) env test body [] (SQ G env σ0 Q s0) k s := by
  induction k with
  | zero => intro m loc σ s _ _ h; exact h.elim
  | succ k ih =>
    intro m loc σ s S a h
    refine whl_turn pass ?_
    refine wpAny_mono (h A env m s S) (fun b s1 q => ?_) fun _ _ z => (z.sx S).then a
    obtain ⟨σ1, h1, h2, h3⟩ := q
    have S1 := S.after h2 h3
    have a1 := a.trans (h2.l _)
    cases b with
    | false =>
      refine WhlIf.no rfl (wpAny_execs_nil ?_)
      exact ⟨.next, loc, σ1, m, h1, rfl, a1, S1.ns, S1.sim, S1.loc⟩
    | true =>
      refine WhlIf.yes rfl (wpAny_mono (h1 A env m s1 S1) (fun f s2 q2 => ?_) fun _ _ z => z.then a1)
      obtain ⟨fl, loc', σ2, m', q1, q2, q3, S2⟩ := S1.sq q2
      have a2 := a1.trans q3
      cases fl with
      | next => cases q2; exact ih S2 a2 q1
      | cont => cases q2; exact ih S2 a2 q1
      | brk => cases q2; exact ⟨.next, loc', σ2, m', q1, rfl, a2, S2.ns, S2.sim, S2.loc⟩
      | ret r => obtain ⟨w', rfl, hr'⟩ := q2; exact ⟨.ret r, loc', σ2, m', q1, ⟨w', rfl, hr'⟩, a2, S2.ns, S2.sim, S2.loc⟩
theorem ex_while {test : Expr} {body : List Stmt} {pos : Pos} {Q : Flw → Loc → Store → Prop} (k : Nat) (h : WhlN G md test body Q X k loc σ) : Ex1 G md (.While test body [] pos) loc σ Q X := fun A env m s S => by
  have hL0 : ∃ o, s.heap.get? env.locals = some o := let ⟨o, _, _, e, _⟩ := S.ns; ⟨o, e⟩
  exact whl_start k (run_while (passes_sx (X := X) S.frm hL0) k S (.refl ..) h)

end
end Mine
end

section
namespace Mine

noncomputable def methOk (K : Frag) (C : Addr) (name : Str) (fa : Addr) : Bool :=
  (findIn K (.ref C) "__getattribute__" == some (some (.builtin "object.__getattribute__"))) && (findIn K (.ref C) "__getattr__" == some none) && (findIn K (.ref C) name == some (some (.ref fa))) && (typeIn K (.ref fa) == some (.type "function"))
/-- the method of that name of the class's objects -/
noncomputable def MethAt (G : Gd) (C : Addr) (name : Str) (fa : Addr) : Prop := ∃ K : Frag, K.In G.base ∧ methOk K C name fa = true
noncomputable def typeName (σ : Store) (x : V) : Option String := match lk σ x with
  | .lst _ => some "list"
  | .tup _ => some "tuple"
  | .str _ => some "str"
  | .sdc .. => some "dict"
  | .idc .. => some "dict"
  | _ => none

/-- the method of that name of the class itself -/
noncomputable def CMethAt (G : Gd) (C : Addr) (name : Str) (fa : Addr) : Prop := ∃ K : Frag, K.In G.base ∧
  ((specialIn K (.ref C) "__getattribute__" == some (some (.builtin "type.__getattribute__"))) && readsIn K C (.type "type")) = true ∧ findCls K (.ref C) (.type "type") name = some (.val (.ref fa))
inductive Meth (G : Gd) (σ : Store) (x : V) (name : Str) : Value → List V → Prop
  | own (C : Addr) (ks : List Str) (vs : List V) (fa : Addr) (hl : look σ x = some (C, ks, vs)) (hk : ks.contains name = false) (hm : MethAt G C name fa) : Meth G σ x name (.ref fa) [x]
  | blt (T id : String) (hT : typeName σ x = some T) (pa : PlainAttrs T) (slot : Slot T name id) (hty : typeOf (.builtin id) = pure (.type "method_descriptor")) : Meth G σ x name (.builtin id) [x]
  | cls (C fa : Addr) (hx : x = .ref C) (hm : CMethAt G C name fa) : Meth G σ x name (.ref fa) []
  | exc (hx : x = .ty "Exception") (hn : name = "__init__") : Meth G σ x name (.builtin "Exception.__init__") []

section
variable {G : Gd} {md : Md} {A : Around} {env : Env} {m : Str → Option Value} {loc : Loc} {σ σ' : Store} {s s' : Shared} {X : Exn → Prop}

theorem lookIn_not {ks : List Str} : ∀ {es : List DictEntry} {name : Str}, RelKs ks (es.map (·.key)) → ks.contains name = false → es.find? (·.key.isStr name) = none := by
  induction ks with
  | nil =>
    intro es name h _
    cases es with
    | nil => rfl
    | cons _ _ => cases h
  | cons k ks ih =>
    intro es name h hc
    obtain ⟨t, rest, hk, h'⟩ := h
    cases es with
    | nil => cases hk
    | cons e es =>
      injection hk with h1 h2
      subst h2
      replace h1 : e.key = .str k t := h1
      rw [List.contains_cons, Bool.or_eq_false_iff] at hc
      rw [List.find?_cons, h1, show (Value.str k t).isStr name = false by simpa [Value.isStr] using fun q : k = name => (beq_eq_false_iff_ne.mp hc.1) q.symm]
      exact ih h' hc.2
theorem exc_type : typeOf (.type "Exception") = pure (.type "type") := by kernel_rfl
theorem exc_found : findCls [] (.type "Exception") (.type "type") "__init__" = some (.val (.builtin "Exception.__init__")) := by kernel_rfl
theorem meth_sound {x : V} {v f : Value} {first : List V} {name : Str} {pl : Sem Bool} {Q : Value × List Value → Shared → Prop} {E : Value → Shared → Prop} (mt : Meth G σ x name f first) (hb : G.base.StaysIn s.heap) (sim : Sim G.P σ s.heap) (r : RelV G.P σ s.heap x v)
    (h : ∀ fs t, RelVs G.P σ s.heap first fs → Q (f, fs) { s with toks := t }) :
    wpAny G.M A (getMethod v name pl) Q E s := by
  cases mt with
  | own C ks vs fa hl hk hm =>
    obtain ⟨a, dx, es, n, rfl, h1, h2, h3, h4⟩ := see_obj sim r hl
    obtain ⟨K, hK, hc⟩ := hm
    simp only [methOk, Bool.and_eq_true] at hc
    obtain ⟨⟨⟨c1, c2⟩, c3⟩, c4⟩ := hc
    have I : InstAt s.heap a (instObj C dx) C (some (dctObj es n)) := ⟨h1, rfl, rfl, h2⟩
    refine method_fn (hK.keeps hb) I (beq_iff_eq.mp c1) (beq_iff_eq.mp c2) (beq_iff_eq.mp c3) (beq_iff_eq.mp c4) ?_ (h _ s.toks (.cons r .nil))
    show (lookIn name (dctObj es n)).map _ = _
    unfold lookIn
    dsimp only
    rw [lookIn_not h3 hk]
    have hr : es.toList.any (·.refKey) = false := by
      rw [List.any_eq_false]
      intro e he
      obtain ⟨x, t, hx⟩ := keys_str h3 e he
      simp [DictEntry.refKey, hx]
    rw [hr]
    rfl
  | blt T id hT pa slot hty =>
    have key : s.TypeIs v T ∧ ∀ a, v = .ref a → ∃ o, s.heap.get? a = some o ∧ o.dict = none := by
      unfold typeName at hT
      generalize hl : lk σ x = y at hT
      cases y with
      | lst l =>
        cases hT
        obtain ⟨a, vs, k, rfl, ho, hr⟩ := see_lst sim r hl
        exact ⟨⟨_, ho, rfl⟩, fun b e => by cases e; exact ⟨_, ho, rfl⟩⟩
      | tup l =>
        cases hT
        obtain rfl := lk_tup hl
        obtain ⟨a, vs, k, rfl, _, ho, hr⟩ := r
        exact ⟨⟨_, ho, rfl⟩, fun b e => by cases e; exact ⟨_, ho, rfl⟩⟩
      | str s =>
        cases hT
        obtain rfl := lk_str hl
        obtain ⟨hf, t, rfl⟩ := r
        exact ⟨typeIs_str _ _ _, fun b e => by cases e⟩
      | sdc ks vs =>
        cases hT
        obtain rfl := lk_sdc hl
        obtain ⟨a, vs, k, rfl, _, ho, hr⟩ := r
        exact ⟨⟨_, ho, rfl⟩, fun b e => by cases e; exact ⟨_, ho, rfl⟩⟩
      | idc ks vs =>
        cases hT
        obtain rfl := lk_idc hl
        obtain ⟨a, vs, k, rfl, _, ho, hr⟩ := r
        exact ⟨⟨_, ho, rfl⟩, fun b e => by cases e; exact ⟨_, ho, rfl⟩⟩
      | _ => cases hT
    exact getMethod_builtin key.1 pa slot hty key.2 (h _ s.toks (.cons r .nil))
  | cls C fa hx hm =>
    subst hx
    cases r
    obtain ⟨K, hK, hc, c3⟩ := hm
    simp only [Bool.and_eq_true] at hc
    obtain ⟨c1, c2⟩ := hc
    exact method_cls (hK.keeps hb) (beq_iff_eq.mp c1) (cls_value (hK.keeps hb) c2 c3 rfl (h _ _ .nil))
  | exc hx hn =>
    subst hx hn
    cases r
    have X0 : Frag.In [] s.heap := fun a o e => by cases e
    have hg : findIn [] (.type "type") "__getattribute__" = some (some (.builtin "type.__getattribute__")) := type_tga
    have L0 : Looks G.M s.heap (typeOf (.type "Exception")) (.type "type") := Looks.of_pure exc_type
    unfold getMethod specialOf
    refine wpAny_bind (wpAny_bind (L0.here ((looks_findIn X0 hg).here ?_)))
    dsimp only
    rw [if_pos canon_tga]
    refine wpAny_bind (wpAny_mono (Q := fun v => Q (v, [])) (E := E) ?_ (fun _ _ z => wpAny_pure z) fun _ _ z => z)
    have hstub : opaqueClassAbove (.type "Exception") = pure none := by kernel_rfl
    have LO : Looks G.M s.heap (opaqueClassAbove (.type "Exception")) none := Looks.of_pure hstub
    refine cls_open X0 LO L0 hg (looks_hook X0 (r := none) (by rfl)) (by show subIn [] _ _ = _; rfl) exc_found
      (wpAny_pure (by show wpAny _ _ (handedOut (.builtin "Exception.__init__")) _ _ _; rw [handedOut_of (by rfl)]; exact wpAny_pure (h _ _ .nil)))

abbrev CalFQ (G : Gd) (n : Nat) (f : Value) (first : List V) (Q : V → Store → Prop) (X : Exn → Prop) : List V → Store → Prop := fun vs σ2 => CallW G n f (first ++ vs) σ2 Q X
inductive MetR (G : Gd) (md : Md) (es : List Expr) (name : Str) (loc : Loc) (Q : V → Store → Prop) (X : Exn → Prop) (x : V) (σ : Store) : Prop | mk (f : Value) (first : List V) (n : Nat) (hm : Meth G σ x name f first) (hk : KeepAt G f) (hn : n ≤ md.n) (q : EvsW G md es loc σ (CalFQ G n f first Q X) X)
theorem ev_method {o : Expr} {name : Str} {apos pos : Pos} {es : List Expr} {Q : V → Store → Prop} (hd : md.hd = none)
    (h : EvW G md o loc σ (MetR G md es name loc Q X) X) (hn : es.all notStar = true := by rfl)
    (he : ∀ env, ∃ pl : Sem Bool, eval (.Call (.Attribute o name apos) es [] pos) env = (do
      let ov ← eval o env
      standAt apos.atName
      let (f, first) ← holding [ov] (getMethod ov name pl)
      callWith pos f first (backTo pos (starEach es env)) (backToKw pos (keywordEach [] env))) := by intro _; exact ⟨_, by with_unfolding_all rfl⟩) : EvW G md (.Call (.Attribute o name apos) es [] pos) loc σ Q X := fun A env m s S => by
  obtain ⟨pl, he⟩ := he env
  refine methodCall_KW (pl := pl) (wpAny_mono (h A env m s S) (fun v s1 q => ?_) fun _ _ z => z) he
  obtain ⟨x, σ1, ⟨f, first, n, hm, hk, hmd, hE⟩, h2, h3, S1⟩ := S.ev q
  refine meth_sound hm S1.frm.stays S1.sim h2 fun fs t hfs => ?_
  have h3' := h3.trans (.tok σ1 s1 t)
  exact wpAny_mono (call_with (S1.tok t) hk hn hmd hd (rs := first) hfs hE) (fun _ _ z => z.then h3') fun _ _ z => z.then h3'

theorem relVs_snoc {P : Params} {h : Heap} : ∀ {l : List V} {y : V} {vs : List Value}, RelVs P σ h (l ++ [y]) vs → ∃ ws u, vs = ws ++ [u] ∧ RelVs P σ h l ws ∧ RelV P σ h y u
  | [], _, _, r => by
    obtain ⟨u, rfl, r1⟩ := one_arg r
    exact ⟨[], u, rfl, .nil, r1⟩
  | x :: l, y, _, r => by
    obtain ⟨v, vs, rfl, r1, r2⟩ := r
    obtain ⟨ws, u, rfl, r3, r4⟩ := relVs_snoc r2
    exact ⟨v :: ws, u, rfl, .cons r1 r3, r4⟩
theorem m_append {a : Addr} {l : List V} {y : V} {Q : V → Store → Prop} (ha : σ a = some (.lst l)) (hz : l.length ≤ 2 ^ 20) (hq : Q .none (upd σ a (.lst (l ++ [y])))) : CallW G 0 (.builtin "list.append") [.ref a, y] σ Q X := by
  intro md A env m loc s vals hmd hhd S hr
  obtain ⟨v, w, rfl, rfl, r⟩ := two_args hr
  obtain ⟨o, ho, vs, n, rfl, hl⟩ := S.sim a _ ha
  have hlen := hl.length
  rw [Array.length_toList] at hlen
  refine wpAny_list_append_plain ⟨n, ho⟩ (fun h' hpl hs => ?_) (by rw [hlen]; exact fit_line hz)
  obtain ⟨n', ho'⟩ := hpl
  obtain ⟨k1, k2⟩ := put_at (tk := s.toks) S.sim ha (by simp) (by intro v e; cases e) hs ho' (mo' := .lst (l ++ [y])) ⟨_, _, rfl, by rw [Array.toList_push]; exact hl.append (.cons r .nil)⟩
  exact ⟨_, _, hq, rfl, k1, k2⟩

theorem m_pop {a : Addr} {l : List V} {y : V} {Q : V → Store → Prop} (ha : σ a = some (.lst (l ++ [y]))) (hz : l.length ≤ 2 ^ 20) (hq : Q y (upd σ a (.lst l))) : CallW G 0 (.builtin "list.pop") [.ref a] σ Q X := by
  intro md A env m loc s vals hmd hhd S hr
  obtain ⟨v, rfl, rfl⟩ := one_arg hr
  obtain ⟨o, ho, vs, n, rfl, hl⟩ := S.sim a _ ha
  have hlen := hl.length
  rw [Array.length_toList, List.length_append] at hlen
  simp only [List.length_cons, List.length_nil] at hlen
  obtain ⟨u, hu, ru⟩ := hl.get l.length (x := y) (by simp)
  have hi : vs.size - 1 = l.length := by lia
  refine call_meets F.slot_list_pop ⟨_, ho, rfl⟩ F.entry_list_pop (F.args_list_pop_1 _) (MeetsSeq.list_pop_last a vs n u (by rw [hi]; simpa using hu) (hs1 := by rw [sizeLine_eq]; lia)) ⟨ho, ?_⟩
  obtain ⟨ws, u', hws, r1, r2⟩ := relVs_snoc hl
  have hu' : u' = u := by
    have e1 : ws.length = l.length := r1.length
    rw [hws, ← e1] at hu
    simpa using hu
  subst hu'
  have hers : (vs.eraseIdxIfInBounds (vs.size - 1)).toList = ws := by
    obtain ⟨vl⟩ := vs
    have : vl = ws ++ [u'] := hws
    subst this
    unfold Array.eraseIdxIfInBounds
    rw [dif_pos (by simp)]
    simp [List.eraseIdx_append_of_length_le]
  have hobj : Obj.mapSeq (fun xs => xs.eraseIdxIfInBounds (vs.size - 1)) (lstObj vs n) = lstObj (vs.eraseIdxIfInBounds (vs.size - 1)) (if (vs.eraseIdxIfInBounds (vs.size - 1)).size == vs.size then n else n + 1) := rfl
  have hnew : (s.heap.update a (Obj.mapSeq fun xs => xs.eraseIdxIfInBounds (vs.size - 1))).get? a = some (lstObj (vs.eraseIdxIfInBounds (vs.size - 1)) (if (vs.eraseIdxIfInBounds (vs.size - 1)).size == vs.size then n else n + 1)) := by
    rw [Heap.get?_update_self _ ho (by rw [hobj]; rfl), hobj]
  obtain ⟨k1, k2⟩ := put_at (tk := s.toks) S.sim ha (by simp) (by intro v e; cases e) (Heap.SameBut.update ..) hnew (mo' := .lst l) ⟨_, _, rfl, by rw [hers]; exact r1⟩
  exact ⟨_, _, hq, r2.step k1.keep k1.dom, k1, k2⟩

theorem m_extend {a : Addr} {l l2 : List V} {y : V} {Q : V → Store → Prop} (ha : σ a = some (.lst l)) (hy : lk σ y = .lst l2) (hz : l.length + l2.length ≤ 2 ^ 20) (hq : Q .none (upd σ a (.lst (l ++ l2)))) : CallW G 0 (.builtin "list.extend") [.ref a, y] σ Q X := by
  intro md A env m loc s vals hmd hhd S hr
  obtain ⟨v, w, rfl, rfl, r⟩ := two_args hr
  obtain ⟨o, ho, vs, n, rfl, hl⟩ := S.sim a _ ha
  obtain ⟨b, ws, n', rfl, ho', hl'⟩ := see_lst S.sim r hy
  have hlen := hl.length
  rw [Array.length_toList] at hlen
  have hlen' := hl'.length
  rw [Array.length_toList] at hlen'
  have hsz := sizeLine_eq
  refine call_meets F.slot_list_extend ⟨_, ho, rfl⟩ F.entry_list_extend (F.args_list_extend_2 _ _) (AutoSeq1.list_extend_list_list_0 a vs n b ws n' ?_ (by lia) (hs2 := by lia)) ⟨ho, ho', ?_⟩
  · simp only [Builtin.List.listTooLong]
    intro hc
    simp at hc
    lia
  · have hobj : Obj.mapSeq (fun x => x ++ ws) (lstObj vs n) = lstObj (vs ++ ws) (if (vs ++ ws).size == vs.size then n else n + 1) := rfl
    have hnew : (s.heap.update a (Obj.mapSeq fun x => x ++ ws)).get? a = some (lstObj (vs ++ ws) (if (vs ++ ws).size == vs.size then n else n + 1)) := by
      rw [Heap.get?_update_self _ ho (by rw [hobj]; rfl), hobj]
    obtain ⟨k1, k2⟩ := put_at (tk := s.toks) S.sim ha (by simp) (by intro v e; cases e) (Heap.SameBut.update ..) hnew (mo' := .lst (l ++ l2)) ⟨_, _, rfl, by rw [Array.toList_append]; exact hl.append hl'⟩
    exact ⟨_, _, hq, rfl, k1, k2⟩

theorem eq_gives_str (a b : Str) (t u : Tok) : MeetsSeq.EqGives (.str a t) (.str b u) (decide (a = b)) := fun _ _ _ _ _ _ h => wpAny_eqBool_str h
/-- the place of a text in a list of texts -/
noncomputable def idxS : List Str → Str → Option Nat
  | [], _ => none
  | y :: ys, x => if y = x then some 0 else (idxS ys x).map (· + 1)
theorem idxS_spec {ss : List Str} : ∀ {x : Str} {j : Nat}, idxS ss x = some j → ∃ h : j < ss.length, ss[j] = x ∧ ∀ m (hm : m < ss.length), m < j → ss[m] ≠ x := by
  induction ss with
  | nil => intro x j h; cases h
  | cons y ys ih =>
    intro x j h
    by_cases hy : y = x
    · rw [show idxS (y :: ys) x = some 0 from if_pos hy] at h
      cases h
      exact ⟨Nat.succ_pos _, hy, fun m _ hm => absurd hm (Nat.not_lt_zero _)⟩
    · rw [show idxS (y :: ys) x = (idxS ys x).map (· + 1) from if_neg hy] at h
      obtain ⟨i, hi, rfl⟩ := Option.map_eq_some_iff.mp h
      obtain ⟨h1, h2, h3⟩ := ih hi
      refine ⟨Nat.succ_lt_succ h1, h2, fun m hm hlt => ?_⟩
      cases m with
      | zero => exact hy
      | succ m => exact h3 m (Nat.lt_of_succ_lt_succ hm) (Nat.lt_of_succ_lt_succ hlt)
theorem strs_at {P : Params} {h : Heap} {l : List V} : ∀ {vs : List Value} {ss : List Str}, RelVs P σ h l vs → strItems l = some ss → vs.length = ss.length ∧ ∀ (i : Nat) (v : Value), vs[i]? = some v → ∃ t, ∃ hi : i < ss.length, v = .str ss[i] t := by
  induction l with
  | nil => intro vs ss r e; cases r; cases e; exact ⟨rfl, fun i v h => by cases h⟩
  | cons y l ih =>
    intro vs ss r e
    obtain ⟨v, vs, rfl, r1, r2⟩ := r
    obtain ⟨s, ss, rfl, hs, rfl⟩ := strItems_cons e
    obtain ⟨hf, t, rfl⟩ := r1
    obtain ⟨h1, h2⟩ := ih r2 hs
    refine ⟨by rw [List.length_cons, h1, List.length_cons], fun i v hv => ?_⟩
    cases i with
    | zero => cases hv; exact ⟨t, Nat.succ_pos _, rfl⟩
    | succ i =>
      obtain ⟨u, hi, e⟩ := h2 i v hv
      exact ⟨u, Nat.succ_lt_succ hi, e⟩
noncomputable def isStrD (x : Str) : Value → Bool
  | .str y _ => decide (y = x)
  | _ => false
theorem m_index {y : V} {l : List V} {ss : List Str} {x : Str} {j : Nat} {Q : V → Store → Prop} (hy : lk σ y = .lst l) (hs : strItems l = some ss) (hz : ss.length ≤ 2 ^ 20) (hj : idxS ss x = some j) (hq : Q (.int j) σ) : CallW G 0 (.builtin "list.index") [y, .str x] σ Q X := by
  intro md A env m loc s vals hmd hhd S hr
  obtain ⟨v, w, rfl, r, hf, t, rfl⟩ := two_args hr
  obtain ⟨a, vs, n, rfl, ho, hl⟩ := see_lst S.sim r hy
  obtain ⟨h1, h2⟩ := strs_at hl hs
  rw [Array.length_toList] at h1
  obtain ⟨k1, k2, k3⟩ := idxS_spec hj
  have get : ∀ i (hi : i < vs.size), ∃ t, ∃ hi' : i < ss.length, vs[i] = .str ss[i] t := fun i hi => h2 i vs[i] (by simp [hi])
  refine call_meets F.slot_list_index ⟨_, ho, rfl⟩ F.entry_list_index (F.args_list_index_2 _ _) (MeetsSeq.list_index a vs n (.str x t) (isStrD x) (fun y hy => ?_) j (by lia) (by lia) ?_ ?_) ⟨ho, ⟨_, σ, hq, ⟨_, rfl⟩, .tok .., S.sim⟩⟩
  · obtain ⟨i, hi, rfl⟩ := Array.mem_iff_getElem.mp hy
    obtain ⟨u, hi', e⟩ := get i hi
    rw [e]
    exact eq_gives_str ss[i] x u t
  · obtain ⟨u, hi', e⟩ := get j (by lia)
    rw [e]
    show decide (ss[j] = x) = true
    simp [k2]
  · intro i hi hlt
    obtain ⟨u, hi', e⟩ := get i hi
    rw [e]
    show decide (ss[i] = x) = false
    simp [k3 i hi' hlt]
end
end Mine
end

section
namespace Mine

/-- a class of the text's top with an __init__ of its own -/
noncomputable def clsMake (K : Frag) (C fI : Addr) : Bool := makesIn K C && (findIn K (.ref C) "__init__" == some (some (.ref fI))) && (typeIn K (.ref fI) == some (.type "function"))
noncomputable def MakeAt (G : Gd) (C fI : Addr) : Prop := ∃ K : Frag, K.In G.base ∧ clsMake K C fI = true

/-- a thing of the store is told whole from here on -/
inductive Frz (σ : Store) : V → V → Store → Prop
  | lst (a : Addr) (l : List V) (h : σ a = some (.lst l)) : Frz σ (.ref a) (.lst l) (era σ a)
  | obj (a C dx : Addr) (ks : List Str) (vs : List V) (h : σ a = some (.ins C dx)) (h' : σ dx = some (.ns ks vs)) : Frz σ (.ref a) (.obj C ks vs) (era (era σ a) dx)

section
variable {G : Gd} {md : Md} {A : Around} {env : Env} {m : Str → Option Value} {loc : Loc} {σ σ' : Store} {s s' : Shared} {X : Exn → Prop}

theorem era_sim {P : Params} {h : Heap} (sim : Sim P σ h) (a : Addr) : Sim P (era σ a) h := fun b mb e => by
  by_cases hb : b = a
  · subst hb; rw [era_eq] at e; cases e
  · rw [era_ne _ hb] at e
    obtain ⟨o, ho, c⟩ := sim b mb e
    refine ⟨o, ho, c.mono fun b o e z => ⟨e, ?_⟩⟩
    by_cases hb : b = a
    · subst hb; exact era_eq ..
    · rw [era_ne _ hb]; exact z
theorem era_after {a : Addr} {mo : MObj} (ha : σ a = some mo) (h1 : mo ≠ .mark) (h2 : ∀ v, mo ≠ .cell v) : After σ (era σ a) s s :=
  ⟨⟨s.heap, s.toks, rfl⟩, Keep.refl σ s.heap, fun b o e => by
    by_cases hb : b = a
    · subst hb
      rw [ha]
      refine ⟨fun z => by (cases z), fun z => ?_, fun v z => ?_⟩
      · cases z; exact absurd rfl h1
      · cases z; exact absurd rfl (h2 v)
    · rw [era_ne _ hb]; exact ⟨id, id, fun v z => ⟨v, z⟩⟩, .refl _⟩
theorem era_mono {P : Params} {h : Heap} (a : Addr) : ∀ b o, h.get? b = some o → σ b = none → h.get? b = some o ∧ era σ a b = none := fun b o e z => ⟨e, by
  by_cases hb : b = a
  · subst hb; exact era_eq ..
  · rw [era_ne _ hb]; exact z⟩

theorem frz_at {r r' : V} {σ2 : Store} {v : Value} (f : Frz σ r r' σ2) (sim : Sim G.P σ s.heap) (h : RelV G.P σ s.heap r v) : RelV G.P σ2 s.heap r' v ∧ After σ σ2 s s ∧ Sim G.P σ2 s.heap := by
  cases f with
  | lst a l ha =>
    cases h
    obtain ⟨o, ho, vs, n, rfl, hl⟩ := sim a _ ha
    exact ⟨⟨a, vs, n, rfl, era_eq .., ho, hl.mono (era_mono (P := G.P) a)⟩, era_after ha (by simp) (by simp), era_sim sim a⟩
  | obj a C dx ks vs ha hd =>
    cases h
    obtain ⟨o, ho, rfl⟩ := sim a _ ha
    obtain ⟨o', ho', es, n, rfl, hk, hv⟩ := sim dx _ hd
    have hne : dx ≠ a := by rintro rfl; rw [ha] at hd; cases hd
    have hd' : era σ a dx = some (.ns ks vs) := by rw [era_ne _ hne]; exact hd
    have a1 : After σ (era σ a) s s := era_after ha (by simp) (by simp)
    have a2 : After (era σ a) (era (era σ a) dx) s s := era_after hd' (by simp) (by simp)
    refine ⟨⟨a, dx, es, n, rfl, ?_, era_eq .., ho, ho', hk, ?_⟩, a1.trans a2, era_sim (era_sim sim a) dx⟩
    · rw [era_ne _ (Ne.symm hne)]; exact era_eq ..
    · exact (hv.mono (era_mono (P := G.P) a)).mono (era_mono (P := G.P) dx)
inductive FrzR (Q : V → Store → Prop) (r : V) (σ1 : Store) : Prop | mk (r' : V) (σ2 : Store) (h : Frz σ1 r r' σ2) (q : Q r' σ2)
theorem EQ.frz {Q : V → Store → Prop} {v : Value} (q : EQ G σ (FrzR Q) s v s') : EQ G σ Q s v s' := by
  obtain ⟨r, σ1, ⟨r', σ2, f, hq⟩, h2, h3, h4⟩ := q
  obtain ⟨k1, k2, k3⟩ := frz_at f h4 h2
  exact ⟨r', σ2, hq, k1, h3.trans k2, k3⟩
theorem callW_frz {n : Nat} {f : Value} {args : List V} {Q : V → Store → Prop} (h : CallW G n f args σ (FrzR Q) X) : CallW G n f args σ Q X := fun md A env m loc s vals h1 h2 h3 h4 =>
  wpAny_mono (h md A env m loc s vals h1 h2 h3 h4) (fun _ _ q => q.frz) fun _ _ z => z

theorem under_u {a u n b : Nat} (hu : u ≤ 20) (hn : 1 ≤ n) (h : a + 20 * n + 200 ≤ b) : a + u + 20 * (n - 1) + 200 ≤ b := by
  cases n with
  | zero => cases hn
  | succ n =>
    refine Nat.le_trans (Nat.add_le_add_right ?_ 200) h
    rw [Nat.add_assoc, Nat.mul_succ, Nat.add_comm (20 * n) 20]
    exact Nat.add_le_add_left (Nat.add_le_add_right hu _) _
theorem St.under {c : Code} (S : St G md A env m loc σ s) (hw : c.weight ≤ 1) (he : c.envs = []) (hu : c.cUnits ≤ 20) (hn : 1 ≤ md.n) : St G ⟨md.n - 1, md.hd, md.sc⟩ (A.under c) env m loc σ s := by
  obtain ⟨⟨h1, h2, hn', h3, h4, h5, h6, h7, ⟨fenv, outer, L, f1, f2, f3, f4, f5⟩, h9, h10, h11, h12⟩, a, b, d⟩ := S
  refine ⟨⟨h1, h2, hn', h3, h4, h5, ?_, ?_, ⟨fenv, outer, L, ?_, f2, f3, f4, f5⟩, h9, h10, h11, h12⟩, a, b, d⟩
  · exact Nat.le_trans (Nat.add_le_add_right (Nat.add_le_add_left hw _) _) (by rw [Nat.add_assoc, Nat.add_sub_cancel' hn]; exact h6)
  · exact under_u hu hn h7
  · show pushEnvs c.envs A.frames = _; rw [he, f1]; rfl

theorem keep_cls {C fI : Addr} (h : MakeAt G C fI) : KeepAt G (.ref C) := fun hp k => by
  obtain ⟨K, hK, hm⟩ := h
  simp only [clsMake, Bool.and_eq_true] at hm
  have Y := makes_of (M := G.M) (hK.keeps k) hm.1.1
  obtain ⟨⟨oc, od, cd, sl, hC, e1, e2, e4⟩, made, base, self, top, call, typ⟩ := Y
  refine ⟨.machine, .inr (.inl rfl), (Looks.ld (part := none) hC).andThen ?_⟩
  refine call.andThen ?_
  rw [if_pos (by simp)]
  exact .now

theorem tc_w {C : Addr} {l : List Value} : Code.weight (.builtin "type.__call__" ⟨.ref C :: l, []⟩) = 1 := rfl
theorem tc_e {C : Addr} {l : List Value} : Code.envs (.builtin "type.__call__" ⟨.ref C :: l, []⟩) = [] := rfl
theorem tc_u {C : Addr} {l : List Value} : Code.cUnits (.builtin "type.__call__" ⟨.ref C :: l, []⟩) = 1 := rfl
theorem call_clsC {C fI : Addr} {n : Nat} {args : List V} {Q : V → Store → Prop} (hm : MakeAt G C fI)
    (h : ∀ x dx, σ x = none → σ dx = none → x ≠ dx → CallC G n (.ref fI) (.ref x :: args) (upd (upd σ dx (.ns [] [])) x (.ins C dx)) (fun r σ' => r = .none ∧ Q (.ref x) σ') X) : CallC G (n + 1) (.ref C) args σ Q X := by
  intro md A env m loc s vals hmn hhd S hr
  obtain ⟨K, hK, hc⟩ := hm
  simp only [clsMake, Bool.and_eq_true] at hc
  obtain ⟨⟨c1, c2⟩, c3⟩ := hc
  have X1 := hK.keeps S.frm.stays
  obtain ⟨hp, g, d, t, os⟩ := s
  refine make_core (makes_of X1 c1) (looks_findIn X1 (beq_iff_eq.mp c2)) (fun self => bind_fn X1 self (beq_iff_eq.mp c3)) (.inl rfl) ?_
  obtain ⟨a1, m1⟩ := grow_put (s := ⟨hp, g, d, t, os⟩) (tk := t) (h' := hp.push emptyDict) (a := hp.objs.size) (o' := emptyDict) (mo := .ns [] []) S.sim (push_keeps hp emptyDict) (free_size hp) (Heap.get?_push_size _ rfl) ⟨#[], 0, rfl, rfl, rfl⟩
  have S1 := S.after a1 m1
  have hsz : (hp.push emptyDict).objs.size = hp.objs.size + 1 := Heap.size_push ..
  have hf1 : (hp.push emptyDict).get? (hp.objs.size + 1) = none := by rw [← hsz]; exact free_size _
  obtain ⟨a2, m2⟩ := grow_put (s := { (⟨hp, g, d, t, os⟩ : Shared) with heap := hp.push emptyDict, toks := t }) (tk := t) (h' := (hp.push emptyDict).push (instObj C hp.objs.size)) (a := hp.objs.size + 1) (o' := instObj C hp.objs.size) (mo := .ins C hp.objs.size) m1 (push_keeps _ _) hf1 (by rw [← hsz]; exact Heap.get?_push_size _ rfl) rfl
  have S2 := S1.after a2 m2
  have hx : σ (hp.objs.size + 1) = none := by
    have := fresh_none (s := ⟨hp.push emptyDict, g, d, t, os⟩) m1 hf1
    rwa [upd_ne _ _ (Nat.succ_ne_self _)] at this
  have S3 := S2.under (c := .builtin "type.__call__" ⟨.ref C :: vals, []⟩) (by rw [tc_w]; decide) tc_e (by rw [tc_u]; decide) (Nat.le_trans (Nat.succ_le_succ (Nat.zero_le n)) hmn)
  refine codeAny_mono (h (hp.objs.size + 1) hp.objs.size hx (fresh_none S.sim (free_size hp)) (Nat.succ_ne_self _) ⟨md.n - 1, md.hd, md.sc⟩ _ env m loc _ (.ref (hp.objs.size + 1) :: vals) (Nat.le_sub_of_add_le hmn) hhd S3 (.cons rfl ((hr.step a1.keep a1.dom).step a2.keep a2.dom))) fun r s' z => ?_
  rcases r with e | (v | _ | _ | _)
  · exact (EX.then a2 z).then a1
  · exact z.elim
  · exact z.elim
  · exact z.elim
  · obtain ⟨r, σ', ⟨rfl, hq⟩, h2, h3, h4⟩ := z
    cases h2
    exact ⟨rfl, _, σ', hq, rfl, (a1.trans a2).trans h3, h4⟩
end
end Mine
end

section
set_option maxHeartbeats 4000000
namespace Mine

section
variable {prog : Program} {w : World} {A : Around} {R : Result → Shared → Prop} {h : Heap} {g : Array GenState} {d : Drawn} {t : Nat} {os : OsState}
variable {nm q : Str} {C N fI : Addr} {bs bm : List Value} {hdct : Bool} {sn : List Str} {sub : List Value} {ab : Bool} {col : Option Bool} {dd : Option Addr} {k0 k1 k2 k3 k5 : Option Value}
variable (hB : (Value.ref C :: bm).contains (.type "Exception") = true) (hA : (Value.ref C :: bm).contains (.type "AttributeError") = false) (hN : (Value.ref C :: bm).contains (.type "NameError") = false)
include hB hA hN

/-- an exception of a class of the text's own: made, then its __init__ -/
theorem exc_call {rest : List Value} (hC : h.get? C = some (excClassObj nm q C N bs bm hdct sn sub ab col dd k0 k1 k2 k3 k5 "Exception.__new__"))
    (hi : Looks (model prog w) h (typeLookup (.ref C) "__init__") (some (.ref fI))) (hb : ∀ self, Looks (model prog w) h (bindSpecial (.ref fI) self) (.ref fI, [self]))
    (hq : ∀ h' e, Heap.MadeExcOf h h' e (.ref C) rest → codeAny (model prog w) (A.under (.builtin "type.__call__" ⟨.ref C :: rest, []⟩)) (.call (.ref fI) ⟨.ref e :: rest, []⟩) (InitBack e R) ⟨h', g, d, t, os⟩) (hrest : rest.length ≤ sizeLine) :
    codeAny (model prog w) A (.call (.ref C) ⟨rest, []⟩) R ⟨h, g, d, t, os⟩ := by
  have F := PySem.F.excBase_Exception
  have f1 := tc_lookup
  have f2 := tc_bind (.ref C)
  have hT : (⟨h, g, d, t, os⟩ : Shared).TypeIs (.ref C) "type" := ⟨_, hC, rfl⟩
  have hstar := F.noStar
  have hends := F.ends
  refine codeAny_of_tree ?_
  show wpAny _ _ (callAny (.ref C) _) _ _ _
  repeat (any_goals (first | assumption | with_reducible refine wpAny_loadPart_at hC ?_ | wp_step))
  refine ⟨rfl, ?_⟩
  refine codeAny_call_builtin_at (Code.quiet_builtin _ (by decide +kernel)) entry_typeCall (wpAny_check_type_call_sub hC ?_)
  repeat (first | with_reducible refine wpAny_loadPart_at hC ?_ | with_reducible refine wpAny_madeBy_exc hC ?_ | wp_step)
  have hck : ∀ {A' : Around} {E' : Value → Shared → Prop} {Q' : Unit → Shared → Prop}, Q' () ⟨h, g, d, t, os⟩ → wpAny (model prog w) A' (checkBuiltinCall "Exception.__new__" ⟨.ref C :: rest, []⟩) Q' E' ⟨h, g, d, t, os⟩ := by
    intro A' E' Q' hq'
    simp only [checkBuiltinCall, F.newKind, F.newSplit, F.newRow]
    repeat (first | refine wpAny_loadPart_at hC ?_ | (refine wpAny_isSubtype_exc hC ?_; rw [hB]) | refine wpAny_staticBase_exc hC ?_ | refine wpAny_madeBy_exc hC ?_ | simp only [bne_self_eq_false, Bool.false_eq_true, if_false] | wp_step)
    exact hq'
  refine codeAny_call_builtin_code (Code.quiet_builtin _ F.quiet) (hck ?_)
  have hnew : ∀ {A' : Around} {R' : Result → Shared → Prop}, R' (.ok (.ret (.ref (h.objs.size + 1)))) ⟨(h.push { cls := .type "tuple", data := .seq rest.toArray }).push
      { cls := .ref C, data := .fields #[.ref h.objs.size, .none, .none, .none, .bool false, .none] }, g, d, t, os⟩ → codeAny (model prog w) A' (.builtin "Exception.__new__" ⟨.ref C :: rest, []⟩) R' ⟨h, g, d, t, os⟩ := by
    intro A' R' hr
    refine codeAny_builtinAt F.entry ?_
    unfold Builtin.«BaseException.__new__»
    refine PySem.wpAt_bind ?_
    show PySem.wpAt _ _ _ (stack >>= _) _ _ _
    refine PySem.wpAt_bind (PySem.wpAt_stack fun p below => PySem.wpAt_of_wpAny ?_)
    wp_walk
    refine PySem.wpAt_of_wpAny ?_
    rw [F.owner]
    repeat (first | with_reducible refine wpAny_madeHere_exc F.canon hC ?_ | with_reducible refine wpAny_loadPart_at hC ?_ | (with_reducible refine wpAny_isSubtype_exc hC ?_; first | rw [hB] | rw [hA] | rw [hN]) | wp_step)
    show R' _ _
    rw [Heap.size_push]
    exact hr
  refine hnew ?_
  show wpAny _ _ _ _ _ _
  have k : ∀ b o, h.get? b = some o → ((h.push { cls := .type "tuple", data := .seq rest.toArray }).push { cls := .ref C, data := .fields #[.ref h.objs.size, .none, .none, .none, .bool false, .none] }).get? b = some o :=
    fun b o e => Heap.get?_push_of_some _ (Heap.get?_push_of_some _ e)
  have hC₁ := k _ _ hC
  have hget : ((h.push { cls := .type "tuple", data := .seq rest.toArray }).push
      { cls := .ref C, data := .fields #[.ref h.objs.size, .none, .none, .none, .bool false, .none] }).get? (h.objs.size + 1) = some
      { cls := .ref C, data := .fields #[.ref h.objs.size, .none, .none, .none, .bool false, .none] } := by heap_get
  have hcC : (Value.ref C :: bm).contains (.ref C) = true := by simp
  have i1 := hi.keeps k
  have b1 := (hb (.ref (h.objs.size + 1))).keeps k
  unfold isInstance
  repeat (first | with_reducible refine wpAny_loadPart_at hget ?_ | (with_reducible refine wpAny_isSubtype_exc hC₁ ?_; rw [hcC]) | wp_step)
  refine i1.at ?_
  refine wpAny_holding (wpAny_bind (b1.at ?_))
  refine wpAny_bind (wpAny_call (codeAny_mono (hq _ (h.objs.size + 1) ⟨k, Heap.get?_none_of_le (Nat.le_succ _), h.objs.size, hget, Heap.get?_none_of_le (Nat.le_refl _), Heap.get?_push_of_some _ (Heap.get?_push_size _ rfl)⟩) fun r s' z => ?_))
  rcases r with e | (v | _ | _ | _) <;> first | exact z | exact z.elim | skip
  obtain ⟨rfl, z⟩ := z
  wp_walk
  exact z
end
end Mine
end

section
set_option maxHeartbeats 4000000
namespace Mine

/-- classes of the text's own, then Exception and what is above it -/
noncomputable def excMro : List Value → Bool
  | [] => false
  | x :: r => match refOf x with
    | some _ => excMro r
    | none => (typOf x == some "Exception") && (r.map typOf == [some "BaseException", some "object"])
noncomputable def excSl (l : List (Option Value)) : Bool := decide (l.length = 6) && (l[4]? == some (some (.builtin "Exception.__new__")))
noncomputable def excCd (C : Addr) (cd : ClassData) : Bool := match cd.mro with
  | m :: bm => (refOf m == some C) && !cd.hasDel && excMro bm && (Value.ref C :: bm).contains (.type "Exception") && (Value.ref C :: bm).contains (.type "BaseException")
        && !(Value.ref C :: bm).contains (.type "AttributeError") && !(Value.ref C :: bm).contains (.type "NameError")
  | [] => false
noncomputable def excShapeOk (C : Addr) (o : Obj) : Bool := (typOf o.cls == some "type") && excSl o.slots.toList && (clsD o.data).any (excCd C)
noncomputable def excOk (K : Frag) (C fI : Addr) (own : List Str) : Bool :=
  (K.lookup C).any (excShapeOk C) && (findIn K (.ref C) "__init__" == some (some (.ref fI))) && (typeIn K (.ref fI) == some (.type "function"))
    && (findIn K (.ref C) "__setattr__" == some (some (.builtin "object.__setattr__"))) && (findIn K (.ref C) "__getattribute__" == some (some (.builtin "BaseException.__getattribute__"))) && (findIn K (.ref C) "__getattr__" == some none)
    && hasDictIn K C && (mroIn K C (.type "object") == some true) && own.all fun n => findIn K (.ref C) n == some none
noncomputable def ExcAt (G : Gd) (C fI : Addr) (own : List Str) : Prop := ∃ K : Frag, K.In G.base ∧ excOk K C fI own = true

inductive ExcO (K : Frag) (C : Addr) : Prop
  | mk (nm q : Str) (N : Addr) (bs bm : List Value) (hdct : Bool) (sn : List Str) (sub : List Value) (ab : Bool) (col : Option Bool) (dd : Option Addr) (k0 k1 k2 k3 k5 : Option Value) (h1 : K.lookup C = some (excClassObj nm q C N bs bm hdct sn sub ab col dd k0 k1 k2 k3 k5 "Exception.__new__")) (h2 : excMro bm = true) (h3 : (Value.ref C :: bm).contains (.type "Exception") = true)
    (h4 : (Value.ref C :: bm).contains (.type "BaseException") = true) (h5 : (Value.ref C :: bm).contains (.type "AttributeError") = false) (h6 : (Value.ref C :: bm).contains (.type "NameError") = false)
structure ExcFacts (K : Frag) (C fI : Addr) (own : List Str) : Prop where
  obj : ExcO K C
  init : findIn K (.ref C) "__init__" = some (some (.ref fI))
  fn : typeIn K (.ref fI) = some (.type "function")
  sets : findIn K (.ref C) "__setattr__" = some (some (.builtin "object.__setattr__"))
  gets : findIn K (.ref C) "__getattribute__" = some (some (.builtin "BaseException.__getattribute__"))
  hook : findIn K (.ref C) "__getattr__" = some none
  dict : hasDictIn K C = true
  isObj : mroIn K C (.type "object") = some true
  names : ∀ n, own.contains n = true → findIn K (.ref C) n = some none
theorem exc_facts {K : Frag} {C fI : Addr} {own : List Str} (h : excOk K C fI own = true) : ExcFacts K C fI own := by
  simp only [excOk, Bool.and_eq_true, List.all_eq_true] at h
  obtain ⟨⟨⟨⟨⟨⟨⟨⟨c1, c2⟩, c3⟩, c4⟩, c5⟩, c6⟩, c7⟩, c7'⟩, c8⟩ := h
  refine ⟨?_, beq_iff_eq.mp c2, beq_iff_eq.mp c3, beq_iff_eq.mp c4, beq_iff_eq.mp c5, beq_iff_eq.mp c6, c7, beq_iff_eq.mp c7', fun n hn => beq_iff_eq.mp (c8 n (List.contains_iff_mem.mp hn))⟩
  obtain ⟨o, ho, hs⟩ := any_some c1
  unfold excShapeOk at hs
  rw [Bool.and_eq_true, Bool.and_eq_true] at hs
  obtain ⟨⟨s1, s2⟩, s3⟩ := hs
  obtain ⟨cd, hcd, hs⟩ := any_some s3
  have e1 := typOf_eq (beq_iff_eq.mp s1)
  have e2 := clsD_eq hcd
  unfold excSl at s2
  rw [Bool.and_eq_true] at s2
  obtain ⟨q1, q2⟩ := s2
  obtain ⟨c, dd, dt, ⟨l⟩⟩ := o
  dsimp only at e1 e2 q1 q2
  obtain ⟨k0, k1, k2, k3, k4, k5, rfl⟩ := len6 (of_decide_eq_true q1)
  have e4 : k4 = some (.builtin "Exception.__new__") := Option.some.inj (beq_iff_eq.mp q2)
  subst e1 e2 e4
  obtain ⟨nm, bs, mro, ns, qn, hd, sn, sub, ab, col, del⟩ := cd
  cases mro with
  | nil => cases hs
  | cons m bm =>
    simp only [excCd, Bool.and_eq_true, beq_iff_eq, Bool.not_eq_true'] at hs
    obtain ⟨⟨⟨⟨⟨⟨w1, rfl⟩, hx⟩, he⟩, hb⟩, ha⟩, hn⟩ := hs
    obtain rfl := refOf_eq w1
    exact ⟨nm, qn, ns, bs, bm, hd, sn, sub, ab, col, dd, k0, k1, k2, k3, k5, ho, hx, he, hb, ha, hn⟩
theorem excMro_cons {x : Value} {r : List Value} (h : excMro (x :: r) = true) : (∃ c, x = .ref c ∧ excMro r = true) ∨ (x = .type "Exception" ∧ r = [.type "BaseException", .type "object"]) := by
  unfold excMro at h
  cases hx : refOf x with
  | some c => rw [hx] at h; exact .inl ⟨c, refOf_eq hx, h⟩
  | none =>
    rw [hx] at h
    obtain ⟨h1, h2⟩ := Bool.and_eq_true_iff.mp h
    have h2 := beq_iff_eq.mp h2
    have hl : r.length = 2 := by simpa using congrArg List.length h2
    obtain ⟨y, z, rfl⟩ := len2 hl
    injection h2 with e1 e2
    injection e2 with e3 _
    exact .inr ⟨typOf_eq (beq_iff_eq.mp h1), by rw [typOf_eq e1, typOf_eq e3]⟩

section
variable {G : Gd} {md : Md} {A : Around} {env : Env} {m : Str → Option Value} {loc : Loc} {σ σ' : Store} {s s' : Shared} {X : Exn → Prop}

theorem keep_exc {C fI : Addr} {own : List Str} (h : ExcAt G C fI own) : KeepAt G (.ref C) := fun hp k => by
  obtain ⟨K, hK, hm⟩ := h
  obtain ⟨nm, q, N, bs, bm, hdct, sn, sub, ab, col, dd, k0, k1, k2, k3, k5, ho, _⟩ := (exc_facts hm).obj
  refine ⟨.machine, .inr (.inl rfl), fun A Q E s kk hq => ?_⟩
  obtain ⟨h1, g, d, t, os⟩ := s
  exact wpAny_keeperOf_exc (kk _ _ (k _ _ (hK _ _ ho))) hq

theorem exc_newC {C fI : Addr} {own : List Str} {n : Nat} {args : List V} {Q : V → Store → Prop} (hm : ExcAt G C fI own) (hz : args.length ≤ 1000)
    (h : ∀ x, σ x = none → CallC G n (.ref fI) (.ref x :: args) (upd σ x (.exc C none)) (fun r σ' => r = .none ∧ Q (.ref x) σ') X) : CallC G (n + 1) (.ref C) args σ Q X := by
  intro md A env m loc s vals hmn hhd S hr
  obtain ⟨K, hK, hc⟩ := hm
  obtain ⟨⟨nm, q, N, bs, bm, hdct, sn, sub, ab, col, dd, k0, k1, k2, k3, k5, ho, hx, hB, hb, hA, hN⟩, hi, hf, _⟩ := exc_facts hc
  have X1 := hK.keeps S.frm.stays
  have hlen := hr.length
  obtain ⟨hp, g, d, t, os⟩ := s
  refine exc_call hB hA hN (X1 _ _ ho) (looks_findIn X1 hi) (fun self => bind_fn X1 self hf) (fun h' e M => ?_) (by rw [hlen, sizeLine_eq]; exact Nat.le_trans hz (by decide))
  obtain ⟨keep, new, tt, he, _, _⟩ := M
  obtain ⟨a1, m1⟩ := grow_put (s := ⟨hp, g, d, t, os⟩) (tk := t) (mo := .exc C none) S.sim keep new he ⟨rfl, rfl, rfl, _, rfl, rfl, rfl⟩
  have S1 := S.after a1 m1
  have S3 := S1.under (c := .builtin "type.__call__" ⟨.ref C :: vals, []⟩) (by rw [tc_w]; decide) tc_e (by rw [tc_u]; decide) (Nat.le_trans (Nat.succ_le_succ (Nat.zero_le n)) hmn)
  refine codeAny_mono (h e (fresh_none S.sim new) ⟨md.n - 1, md.hd, md.sc⟩ _ env m loc _ (.ref e :: vals) (Nat.le_sub_of_add_le hmn) hhd S3 (.cons rfl (hr.step a1.keep a1.dom))) fun r s' z => ?_
  rcases r with e | (v | _ | _ | _)
  · exact EX.then a1 z
  · exact z.elim
  · exact z.elim
  · exact z.elim
  · obtain ⟨r, σ', ⟨rfl, hq⟩, h2, h3, h4⟩ := z
    cases h2
    exact ⟨rfl, _, σ', hq, rfl, a1.trans h3, h4⟩

theorem exc_init0 {C fI : Addr} {own : List Str} {e : Addr} {dx : Option Addr} {y : V} {Q : V → Store → Prop} (hm : ExcAt G C fI own) (he : σ e = some (.exc C dx)) (hq : Q .none σ) : CallW G 0 (.builtin "Exception.__init__") [.ref e, y] σ Q X := by
  intro md A env m loc s vals hmn hhd S hr
  obtain ⟨v, w, rfl, rfl, ry⟩ := two_args hr
  obtain ⟨K, hK, hc⟩ := hm
  obtain ⟨⟨nm, q, N, bs, bm, hdct, sn, sub, ab, col, dd, k0, k1, k2, k3, k5, ho, hx, hB, hb, hA, hN⟩, hi, hf, _⟩ := exc_facts hc
  have X1 := hK.keeps S.frm.stays
  have F := PySem.F.excBase_Exception
  obtain ⟨o, hoe, hcl, hdi, hsl, vs, hd, hsz, h1⟩ := S.sim e _ he
  have hC := X1 _ _ ho
  have hshort := F.noStar
  obtain ⟨hp, g, d, t, os⟩ := s
  have hck : ∀ {A' : Around} {E' : Value → Shared → Prop} {Q' : Unit → Shared → Prop}, Q' () ⟨hp, g, d, t, os⟩ → wpAny G.M A' (checkBuiltinCall "Exception.__init__" ⟨[.ref e, w], []⟩) Q' E' ⟨hp, g, d, t, os⟩ := by
    intro A' E' Q' hq'
    simp only [checkBuiltinCall, F.initKind, F.initSplit, F.initRow]
    repeat (first | (with_reducible refine wpAny_loadPart_at hoe ?_; rw [hcl]) | with_reducible refine wpAny_loadPart_at hC ?_ | (with_reducible refine wpAny_isSubtype_exc hC ?_; rw [hB]) | wp_step)
    exact hq'
  refine wpAny_call (codeAny_call_builtin F.init.plain F.initEntry (hck ?_))
  unfold Builtin.«BaseException.__init__»
  dsimp only
  rw [if_neg (by simp)]
  unfold newTuple Builtin.BaseException.bexcPut
  obtain ⟨v0, h0⟩ : ∃ v0, vs[0]? = some v0 := ⟨vs[0], by simp [hsz]⟩
  have keep := push_keeps hp (tupObj [w].toArray 0)
  have he₁ := keep _ _ hoe
  obtain ⟨g1, g2⟩ := grow (s := ⟨hp, g, d, t, os⟩) (tk := t) S.sim keep
  have hob : Obj.mapFields (·.setIfInBounds 0 (.ref hp.objs.size)) o = { o with data := .fields (vs.setIfInBounds 0 (.ref hp.objs.size)) } := by
    obtain ⟨c, dd, dt, sl⟩ := o; subst hd; rfl
  have hnew : ((hp.push (tupObj [w].toArray 0)).update e (Obj.mapFields (·.setIfInBounds 0 (.ref hp.objs.size)))).get? e = some { o with data := .fields (vs.setIfInBounds 0 (.ref hp.objs.size)) } := by
    rw [Heap.get?_update_self _ he₁ (by rw [hob]; rfl), hob]
  obtain ⟨k1', k2'⟩ := put_at (s := { (⟨hp, g, d, t, os⟩ : Shared) with heap := hp.push (tupObj [w].toArray 0), toks := t }) (tk := t) g2 he (by simp) (by intro v e; cases e) (Heap.SameBut.update ..) hnew (mo' := .exc C dx)
    ⟨hcl, hdi, hsl, _, rfl, by simp [hsz], by rw [Array.getElem?_setIfInBounds_ne (by decide)]; exact h1⟩
  have hσ : upd σ e (.exc C dx) = σ := by
    funext b
    unfold upd
    by_cases hb : b = e
    · subst hb; simp [he]
    · simp [hb]
  rw [hσ] at k1' k2'
  refine wpAny_bind (wpAny_newObj_type (wpAny_bind (wpAny_bind (wpAny_field he₁ hd h0 (wpAny_bind (wpAny_setField he₁ hd (by rw [hsz]; decide) ?_))))) (by size_fits))
  have fin : EQ G σ Q ⟨hp, g, d, t, os⟩ .none { (⟨hp, g, d, t, os⟩ : Shared) with heap := (hp.push (tupObj [w].toArray 0)).update e (Obj.mapFields (·.setIfInBounds 0 (.ref hp.objs.size))), toks := t } := ⟨_, σ, hq, rfl, g1.trans k1', k2'⟩
  cases v0 with
  | ref b => exact wpAny_letGo (wpAny_pure fin)
  | _ => exact wpAny_pure (wpAny_pure fin)
end
end Mine
end

section
open Builtin Builtin.ObjectAttr
namespace Mine

theorem refuse_exc (self : Value) {l : List Value} : excMro l = true → refuseLoop self "__setattr__" l = pure () := by
  induction l with
  | nil => intro e; cases e
  | cons x r ih =>
    intro e
    rcases excMro_cons e with ⟨c, rfl, h⟩ | ⟨rfl, rfl⟩
    · rw [refuseLoop_ref]; exact ih h
    · exact PySem.F.store_Exception.passes self

section
variable {G : Gd} {md : Md} {A : Around} {env : Env} {m : Str → Option Value} {loc : Loc} {σ σ' : Store} {s s' : Shared} {X : Exn → Prop}

theorem exc_inst {K : Frag} {C fI e : Addr} {own : List Str} {o : Obj} {vs : Array Value} (he : s.heap.get? e = some o) (hcl : o.cls = .ref C) (hd : o.data = .fields vs) {od : Option Obj} (hod : match o.dict, od with
    | some dx, some o => s.heap.get? dx = some o
    | none, none => True
    | _, _ => False) : InstAt s.heap e o C od := ⟨he, hcl, by unfold notCls; rw [hd], hod⟩

/-- the door to an exception's own dict -/
theorem osa_exc {K : Frag} {C fI e : Addr} {own : List Str} {o : Obj} {od : Option Obj} {name : Str} {tk : Tok} {v : Value} {R : Result → Shared → Prop} (F : ExcFacts K C fI own) (X1 : K.In s.heap) (I : InstAt s.heap e o C od) (hn : own.contains name = true)
    (h : ∀ b, wpAny G.M A.in1 (storeInOwnDict (.ref e) (.ref C) (.str name tk) name v b) (fun fin s' => match fin with | .done f => R (.ok f) s' | .again c' => c'.quiet = true ∧ codeAny G.M A c' R s') (fun e s' => R (.error e) s') s) :
    codeAny G.M A (.call (.builtin "object.__setattr__") ⟨[.ref e, .str name tk, v], []⟩) R s := by
  have SF := PySem.F.store_object
  obtain ⟨nm, q, N, bs, bm, hdct, sn, sb, ab, col, dd, k0, k1, k2, k3, k5, ho, hx, hB, hb, hA, hN⟩ := F.obj
  have sub : Looks G.M s.heap (isInstance (.ref e) (.type "object")) true := I.type.andThen (looks_mroIn X1 F.isObj)
  refine codeAny_call_builtin SF.slot.plain SF.entry (@check_slot G.M _ _ s "object.__setattr__" "object" "__setattr__" (.ref e) [.str name tk, v] [] _ SF.kind SF.split sub (SF.args (.ref e) (.str name tk) v) ?_)
  have hcls : clsIn K C = some { name := nm, bases := bs, mro := .ref C :: bm, ns := N, qualname := q, hasDict := hdct, slotNames := sn, subclasses := sb, abstract := ab, collection := col, hasDel := false } := by unfold clsIn; rw [ho]
  have hm : Looks G.M s.heap (mroOf (.ref C)) (.ref C :: bm) := (looks_clsIn X1 hcls).andThen .now
  have L3 : Looks G.M s.heap (storeTaker? none) none := .now
  rw [osa_eq, refuse_eq]
  refine wpAny_bind (wpAny_bind (I.type.here (wpAny_bind (hm.here ?_))))
  rw [refuse_exc _ (by unfold excMro; exact hx)]
  refine wpAny_pure (wpAny_bind (I.type.here (wpAny_bind ((looks_findIn X1 (F.names name hn)).here (wpAny_bind (L3.here ?_))))))
  exact h _

/-- a name of an exception under way is set -/
theorem set_exc {C fI e : Addr} {own : List Str} {odx : Option Addr} {name : Str} {u : V} {w : Value} {Qu : Unit → Shared → Prop} {E : Value → Shared → Prop} (hm : ExcAt G C fI own) (hb : G.base.StaysIn s.heap) (sim : Sim G.P σ s.heap)
    (he : σ e = some (.exc C odx)) (hn : own.contains name = true) (hr : RelV G.P σ s.heap u w)
    (hdx : ∀ dx, odx = some dx → ∃ ks vs, σ dx = some (.ns ks vs) ∧ ks.length ≤ 900)
    (h0 : odx = none → ∀ dx, σ dx = none → ∀ s', After σ (upd (upd σ dx (.ns [name] [u])) e (.exc C (some dx))) s s' → Sim G.P (upd (upd σ dx (.ns [name] [u])) e (.exc C (some dx))) s'.heap → Qu () s')
    (h1 : ∀ dx ks vs, odx = some dx → σ dx = some (.ns ks vs) → ∀ s', After σ (upd σ dx (.ns (putFk ks name) (putFv ks vs name u))) s s' → Sim G.P (upd σ dx (.ns (putFk ks name) (putFv ks vs name u))) s'.heap → Qu () s') :
    wpAny G.M A (setAttr (.ref e) name w) Qu E s := by
  obtain ⟨K, hK, hc⟩ := hm
  have F := exc_facts hc
  have X1 := hK.keeps hb
  obtain ⟨o, hoe, hcl, hdi, hsl, vs, hd, hsz, h1'⟩ := sim e _ he
  obtain ⟨cd, hcd, hdd⟩ := any_some F.dict
  cases odx with
  | some dx =>
    obtain ⟨ks, vs, hσ, hz⟩ := hdx dx rfl
    obtain ⟨od, h2, es, n, rfl, h3, h4⟩ := sim dx _ hσ
    have I : InstAt s.heap e o C (some (dctObj es n)) := exc_inst (K := K) (fI := fI) (own := own) hoe hcl hd (by rw [hdi]; exact h2)
    refine set_plain X1 I F.sets ?_
    refine osa_exc (s := { s with toks := s.toks + 1 }) F X1 I hn fun b => ?_
    refine wpAny_bind (wpAny_pure (wpAny_bind (wpAny_bind (wpAny_loadPart hoe ?_))))
    rw [hcl]
    refine wpAny_bind ((looks_clsIn (h := s.heap) X1 hcd) _ _ _ _ (fun _ _ e => e) ?_)
    rw [hdd, hdi]
    refine wpAny_pure (a := some dx) (wpAny_bind (wpAny_pure (wpAny_bind ?_)))
    have h2' : s.heap.get? dx = some (dictOf es.toList n) := h2
    refine nsSet_exact (s := { s with toks := s.toks + 1 }) h2' (keys_str h3) ?_
    have hput := putName_dict name (PyData.keyHash G.P name) (.str name (s.toks + 1)) w es.toList n
    have hnew : (s.heap.update dx (Obj.putName name (PyData.keyHash G.P name) (.str name (s.toks + 1)) w)).get? dx = some (dictOf (putL name (PyData.keyHash G.P name) (.str name (s.toks + 1)) w es.toList) (putN name es.toList n)) := by
      rw [Heap.get?_update_self _ h2' (by rw [hput]; rfl), hput]
    obtain ⟨k1, k2⟩ := put_at (tk := s.toks + 2) sim hσ (by simp) (by intro v e; cases e) (Heap.SameBut.update ..) hnew (mo' := .ns (putFk ks name) (putFv ks vs name u)) ⟨_, _, rfl, by
      simpa using putL_ks (P := G.P) (h := s.heap) h3, by simpa using putL_vs hr h3 h4⟩
    refine wpAny_bind (wpAny_lookBehind (s := { s with heap := _, toks := s.toks + 2 }) hnew (pastItsLine_dict ?_) (wpAny_pure (h1 dx ks vs rfl hσ _ k1 k2)))
    have := putL_size (name := name) (hsh := PyData.keyHash G.P name) (k := .str name (s.toks + 1)) (v := w) es.toList
    have hl := relKs_length h3
    rw [List.length_map] at hl
    rw [List.size_toArray, sizeLine_eq]
    lia
  | none =>
    have I : InstAt s.heap e o C none := exc_inst (K := K) (fI := fI) (own := own) hoe hcl hd (by rw [hdi]; trivial)
    refine set_plain X1 I F.sets ?_
    refine osa_exc (s := { s with toks := s.toks + 1 }) F X1 I hn fun b => ?_
    refine wpAny_bind (wpAny_pure (wpAny_bind (wpAny_bind (wpAny_loadPart hoe ?_))))
    rw [hcl]
    refine wpAny_bind ((looks_clsIn (h := s.heap) X1 hcd) _ _ _ _ (fun _ _ e => e) ?_)
    rw [hdd, hdi]
    rw [if_neg (by simp)]
    dsimp only
    rw [if_neg (by simp [typeHasDict]), hd]
    dsimp only
    have hf := free_size s.heap
    have hdσ := fresh_none sim hf
    obtain ⟨a1, m1⟩ := grow_put (tk := s.toks + 1) (h' := s.heap.push emptyDict) (o' := emptyDict) (mo := .ns [] []) sim (push_keeps s.heap emptyDict) hf (Heap.get?_push_size _ rfl) ⟨#[], 0, rfl, rfl, rfl⟩
    have hne : e ≠ s.heap.objs.size := by rintro rfl; rw [hf] at hoe; cases hoe
    have he1 : upd σ s.heap.objs.size (.ns [] []) e = some (.exc C none) := (upd_ne σ _ hne).trans he
    have hoe1 := push_keeps s.heap emptyDict _ _ hoe
    have hnew1 : ((s.heap.push emptyDict).update e fun o => { cls := o.cls, dict := some s.heap.objs.size, data := o.data, slots := o.slots }).get? e = some { cls := o.cls, dict := some s.heap.objs.size, data := o.data, slots := o.slots } := by
      rw [Heap.get?_update_self _ hoe1 (by simp [Obj.isFreed, hd])]
    obtain ⟨a2, m2⟩ := put_at (s := { s with heap := s.heap.push emptyDict, toks := s.toks + 1 }) (tk := s.toks + 1) m1 he1 (by simp) (by intro v e; cases e) (Heap.SameBut.update ..) hnew1 (mo' := .exc C (some s.heap.objs.size)) ⟨hcl, rfl, hsl, vs, hd, hsz, h1'⟩
    have hd2 : upd (upd σ s.heap.objs.size (.ns [] [])) e (.exc C (some s.heap.objs.size)) s.heap.objs.size = some (.ns [] []) := (upd_ne _ _ (Ne.symm hne)).trans (upd_eq ..)
    obtain ⟨od, h2, es, n, rfl, h3, h4⟩ := m2 _ _ hd2
    refine wpAny_bind (wpAny_alloc (wpAny_bind ?_))
    refine wpAny_update hoe1 ?_
    refine wpAny_pure (a := some s.heap.objs.size) ?_
    refine wpAny_bind (wpAny_pure (wpAny_bind ?_))
    have h2' : ((s.heap.push emptyDict).update e fun o => { cls := o.cls, dict := some s.heap.objs.size, data := o.data, slots := o.slots }).get? s.heap.objs.size = some (dictOf es.toList n) := h2
    refine nsSet_exact (s := { s with heap := (s.heap.push emptyDict).update e fun o => { cls := o.cls, dict := some s.heap.objs.size, data := o.data, slots := o.slots }, toks := s.toks + 1 }) h2' (keys_str h3) ?_
    have hput := putName_dict name (PyData.keyHash G.P name) (.str name (s.toks + 1)) w es.toList n
    have hnew : (((s.heap.push emptyDict).update e fun o => { cls := o.cls, dict := some s.heap.objs.size, data := o.data, slots := o.slots }).update s.heap.objs.size (Obj.putName name (PyData.keyHash G.P name) (.str name (s.toks + 1)) w)).get? s.heap.objs.size = some (dictOf (putL name (PyData.keyHash G.P name) (.str name (s.toks + 1)) w es.toList) (putN name es.toList n)) := by
      rw [Heap.get?_update_self _ h2' (by rw [hput]; rfl), hput]
    have hr2 := (hr.step a1.keep a1.dom).step a2.keep a2.dom
    obtain ⟨a3, m3⟩ := put_at (s := { s with heap := (s.heap.push emptyDict).update e fun o => { cls := o.cls, dict := some s.heap.objs.size, data := o.data, slots := o.slots }, toks := s.toks + 1 }) (tk := s.toks + 2) m2 hd2 (by simp) (by intro v e; cases e) (Heap.SameBut.update ..) hnew (mo' := .ns [name] [u]) ⟨_, _, rfl, by
      simpa [putFk] using putL_ks (P := G.P) (h := s.heap) (ks := []) h3, by simpa [putFv] using putL_vs (ks := []) hr2 h3 h4⟩
    have hσ : upd (upd (upd σ s.heap.objs.size (.ns [] [])) e (.exc C (some s.heap.objs.size))) s.heap.objs.size (.ns [name] [u]) = upd (upd σ s.heap.objs.size (.ns [name] [u])) e (.exc C (some s.heap.objs.size)) := by
      rw [upd_comm hne, upd_upd]
    rw [hσ] at a3 m3
    refine wpAny_bind (wpAny_lookBehind (s := { s with heap := _, toks := s.toks + 2 }) hnew (pastItsLine_dict ?_) (wpAny_pure (h0 rfl _ hdσ _ ((a1.trans a2).trans a3) m3)))
    have := putL_size (name := name) (hsh := PyData.keyHash G.P name) (k := .str name (s.toks + 1)) (v := w) es.toList
    have hl := relKs_length h3
    rw [List.length_map] at hl
    simp only [List.length_nil] at hl
    rw [List.size_toArray, sizeLine_eq]
    lia
end
end Mine
end

section
namespace Mine

noncomputable def scalV : V → Bool
  | .none | .bool _ | .int _ | .str _ => true
  | _ => false
theorem scal_rel {P : Params} {σ : Store} {h : Heap} {x : V} {v : Value} (hs : scalV x = true) (r : RelV P σ h x v) : RelV P noStore {} x v := by
  cases x with
  | none => exact r
  | bool _ => exact r
  | int _ => exact r
  | str _ => exact r
  | _ => cases hs
theorem scal_rels {P : Params} {σ : Store} {h : Heap} : ∀ {l : List V} {vs : List Value}, l.all scalV = true → RelVs P σ h l vs → Scals P l vs
  | [], _, _, r => r
  | x :: l, _, hs, r => by
    rw [List.all_cons, Bool.and_eq_true] at hs
    obtain ⟨v, vs, rfl, r1, r2⟩ := r
    exact ⟨v, vs, rfl, scal_rel hs.1 r1, scal_rels hs.2 r2⟩
theorem six_of {vs : Array Value} (h : vs.size = 6) (h1 : vs[1]? = some .none) : ∃ a b c d e, vs = #[a, .none, b, c, d, e] := by
  obtain ⟨l⟩ := vs
  obtain ⟨a, x, b, c, d, e, rfl⟩ := len6 (l := l) h
  simp at h1
  subst h1
  exact ⟨a, b, c, d, e, rfl⟩

section
variable {G : Gd} {md : Md} {A : Around} {env : Env} {m : Str → Option Value} {loc : Loc} {σ σ' : Store} {s s' : Shared} {X : Exn → Prop}

inductive ExdR (name : Str) (loc : Loc) (Q : Flw → Loc → Store → Prop) (u : V) (a C : Addr) (σ2 : Store) : Option Addr → Prop
  | none (h : ∀ dx, σ2 dx = none → dx ≠ a → Q .next loc (upd (upd σ2 dx (.ns [name] [u])) a (.exc C (some dx)))) : ExdR name loc Q u a C σ2 none
  | some (dx : Addr) (ks : List Str) (vs : List V) (h1 : σ2 dx = some (.ns ks vs)) (h2 : ks.length ≤ 900) (q : Q .next loc (upd σ2 dx (.ns (putFk ks name) (putFv ks vs name u)))) : ExdR name loc Q u a C σ2 (some dx)
inductive SetXR (G : Gd) (name : Str) (loc : Loc) (Q : Flw → Loc → Store → Prop) (u x : V) (σ2 : Store) : Prop | mk (a C fI : Addr) (own : List Str) (odx : Option Addr) (h1 : x = .ref a) (h2 : σ2 a = some (.exc C odx)) (h3 : ExcAt G C fI own) (h4 : own.contains name = true) (q : ExdR name loc Q u a C σ2 odx)
abbrev SetXQ (G : Gd) (md : Md) (o : Expr) (name : Str) (loc : Loc) (Q : Flw → Loc → Store → Prop) (X : Exn → Prop) : V → Store → Prop := fun u σ1 => EvW G md o loc σ1 (SetXR G name loc Q u) X
theorem ex_setattr_exc {o e : Expr} {name : Str} {tp pos : Pos} {Q : Flw → Loc → Store → Prop}
    (h : EvW G md e loc σ (SetXQ G md o name loc Q X) X) (hn : notComp e = true := by rfl) : Ex1 G md (.Assign [.Attribute o name tp] e pos) loc σ Q X := fun A env m s S => by
  refine plainObj_wpAny_Assign_Attribute (wpAny_mono (h A env m s S) (fun w s1 q => ?_) fun _ _ z => z.sx S) (swaps_not hn ..)
  obtain ⟨u, σ1, h1, h2, h3, S1⟩ := S.ev q
  refine wpAny_mono (h1 A env m s1 S1) (fun v s2 q => ?_) fun _ _ z => (z.sx S1).then (h3.l _)
  obtain ⟨x, σ2, ⟨a, C, fI, own, odx, rfl, k2, k3, k4, k5⟩, j2, j3, S2⟩ := S1.ev q
  cases j2
  have hu := h2.step j3.keep j3.dom
  refine set_exc k3 S2.frm.stays S2.sim k2 k4 hu (fun dx hdx => ?_) (fun h0 dx hσ s3 a3 sim3 => ?_) (fun dx ks vs h1 hσ s3 a3 sim3 => ?_)
  · subst hdx
    obtain ⟨h⟩ | ⟨_, ks, vs, e1, e2, _⟩ := k5
    exact ⟨ks, vs, e1, e2⟩
  · subst h0
    have S3 := S2.after a3 sim3
    obtain ⟨k5⟩ | _ := k5
    exact ⟨.next, loc, _, m, k5 dx hσ (by rintro rfl; rw [k2] at hσ; cases hσ), rfl, ((h3.trans j3).trans a3).l _, S3.ns, S3.sim, S3.loc⟩
  · subst h1
    obtain ⟨h⟩ | ⟨_, ks', vs', e1, e2, e3⟩ := k5
    rw [hσ] at e1; cases e1
    have S3 := S2.after a3 sim3
    exact ⟨.next, loc, _, m, e3, rfl, ((h3.trans j3).trans a3).l _, S3.ns, S3.sim, S3.loc⟩

inductive RaiR (G : Gd) (X : Exn → Prop) (σ : Store) (r : V) (σ1 : Store) : Prop | mk (ea C fI : Addr) (own : List Str) (dx : Addr) (ks : List Str) (vs : List V) (h1 : r = .ref ea) (h2 : σ1 ea = some (.exc C (some dx))) (h3 : σ1 dx = some (.ns ks vs)) (h4 : σ ea = none) (h5 : σ dx = none) (h6 : vs.all scalV = true) (h7 : ExcAt G C fI own) (h8 : X ⟨C, ks, vs⟩)
theorem ex_raise {e : Expr} {pos : Pos} {Q : Flw → Loc → Store → Prop} (hd : md.hd = none)
    (h : EvW G md e loc σ (RaiR G X σ) X) : Ex1 G md (.Raise (some e) none pos) loc σ Q X := fun A env m s S => by
  rw [arm_exec_Raise]
  refine wpAny_bind (wpAny_standAt ?_)
  show wpAny _ _ (raiseStmt env (some (do let v ← eval e env; standAt pos; pure v)) none) _ _ _
  unfold raiseStmt
  refine wpAny_bind (wpAny_bind (wpAny_mono (h A env m s S) (fun v s1 q => ?_) fun _ _ z => z.sx S))
  obtain ⟨r, σ1, ⟨ea, C, fI, own, dx, ks, vs, rfl, k1, k2, k3, k4, k5, k6, k7⟩, h2, h3, S1⟩ := S.ev q
  cases h2
  have hh : A.handled = none := S.frm.hand.trans hd
  obtain ⟨K, hK, hc⟩ := k6
  obtain ⟨⟨nm, q', N, bs, bm, hdct, sn, sub, ab, col, dd, k0, kk1, kk2, kk3, k5', ho, hx, hB, hb, hA, hN⟩, _⟩ := exc_facts hc
  have hC := (hK.keeps S1.frm.stays) _ _ ho
  obtain ⟨o, hoe, hcl, hdi, hsl, fvs, hdat, hsz, hv1⟩ := S1.sim ea _ k1
  obtain ⟨od, hod, es, n, rfl, hk, hv⟩ := S1.sim dx _ k2
  have fr : ∀ b, σ b = none → σ1 b ≠ none → s.heap.get? b = none := fun b hb hb1 => by
    cases hq : s.heap.get? b with
    | none => rfl
    | some o => exact absurd ((h3.dom b o hq).1 hb) hb1
  have fin : SX G env σ X s (.ref ea) s1 := by
    refine ⟨_, k7, ⟨ea, dx, o, fvs, es, n, rfl, fr ea k3 (by rw [k1]; simp), hoe, hcl, hdi, hdat, by lia, .inl ⟨hv1, trivial⟩, fr dx k4 (by rw [k2]; simp), hod, hk, scal_rels k5 hv⟩, h3.same, h3.keep.l _, h3.live, m, S1.ns⟩
  refine wpAny_bind (wpAny_standAt (wpAny_pure ?_))
  obtain ⟨a0, b0, c0, d0, e0, rfl⟩ := six_of hsz hv1
  obtain ⟨oc, odi, oda, osl⟩ := o
  dsimp only at hcl hdi hdat hsl
  subst hcl hdi hdat hsl
  obtain ⟨hp, g, d, t, os⟩ := s1
  repeat (first | with_reducible refine wpAny_loadPart_at hoe ?_ | with_reducible refine wpAny_loadPart_at hC ?_ | (with_reducible refine wpAny_isSubtype_exc hC ?_; rw [hb]) | wp_step)
  exact wpAny_raiseNew_none hh fin
end
end Mine
end

section
namespace Mine

noncomputable def marks (σ : Store) : Store := fun b => match σ b with
  | some .mark => some .mark
  | _ => none
theorem marks_mark {σ : Store} {b : Addr} (h : σ b = some .mark) : marks σ b = some .mark := by unfold marks; rw [h]
theorem marks_none {σ : Store} {b : Addr} (h : σ b = none) : marks σ b = none := by unfold marks; rw [h]
theorem marks_is {σ : Store} {b : Addr} {mo : MObj} (h : marks σ b = some mo) : mo = .mark ∧ σ b = some .mark := by
  unfold marks at h
  split at h
  · rename_i hm; cases h; exact ⟨rfl, hm⟩
  · cases h
noncomputable def allVals : Loc → Bool
  | [] => true
  | (_, .val _) :: l => allVals l
  | _ => false
theorem allVals_get : ∀ {l : Loc} {x : Str} {lv : LV}, allVals l = true → l.lookup x = some lv → ∃ v, lv = .val v
  | [], _, _, _, e => by simp at e
  | (y, .val v) :: l, x, lv, h, e => by
    rw [List.lookup_cons] at e
    split at e
    · cases e; exact ⟨v, rfl⟩
    · exact allVals_get (l := l) h e
  | (y, .cell c) :: l, _, _, h, _ => by cases h

/-- whether an exception of the class D is one of the class C -/
noncomputable def SubAt (G : Gd) (D C : Addr) (b : Bool) : Prop := ∃ K : Frag, K.In G.base ∧ (mroIn K D (.ref C) = some b)
/-- an exception class, as an except clause names it -/
noncomputable def CatchAt (G : Gd) (C : Addr) : Prop := ∃ fI own, ExcAt G C fI own

/-- what the except clauses make of an exception -/
noncomputable def HandW (G : Gd) (md : Md) (loc : Loc) (σ : Store) (Q : Flw → Loc → Store → Prop) (x : Exn) : List ExceptHandler → Prop
  | .ExceptHandler (some (.Name cn cp)) (some n) (b0 :: suite) pos :: rest => ∃ C b, (∀ hd, EvW G ⟨md.n, hd, md.sc⟩ (.Name cn cp) loc σ (fun v σ1 => v = .ref C ∧ σ1 = σ) (fun _ => False)) ∧ CatchAt G C ∧ SubAt G x.C C b ∧
      if b = true then md.sc.lookup n = some .local ∧ ∀ hd, ExW G ⟨md.n, hd, md.sc⟩ (b0 :: suite) ((n, .val (.xc x.C x.ks x.vs)) :: loc) σ (fun fl _ σ' => ∃ v, fl = .ret v ∧ Q (.ret v) [] σ') (fun _ => False)
      else HandW G md loc σ Q x rest
  | _ => False

section
variable {G : Gd} {md : Md} {A : Around} {env : Env} {m : Str → Option Value} {loc : Loc} {σ σ' : Store} {s s' : Shared} {X : Exn → Prop}

theorem exc_matches {C D : Addr} {b : Bool} {e : Addr} {oe : Obj} {fI fI' : Addr} {own own' : List Str} {Q : Bool → Shared → Prop} {E : Value → Shared → Prop} (hb0 : G.base.StaysIn s.heap) (hD : ExcAt G D fI own) (hC : ExcAt G C fI' own') (hs : SubAt G D C b)
    (he : s.heap.get? e = some oe) (hcl : oe.cls = .ref D) (hq : Q b s) : wpAny G.M A (excMatches (.ref e) (.ref C)) Q E s := by
  obtain ⟨K, hK, hc⟩ := hD
  obtain ⟨⟨nm, q', N, bs, bm, hdct, sn, sb, ab, col, dd, k0, kk1, kk2, kk3, k5', ho, hx, hB, hb, hA, hN⟩, _⟩ := exc_facts hc
  obtain ⟨K2, hK2, hc2⟩ := hC
  obtain ⟨⟨nm2, q2, N2, bs2, bm2, hdct2, sn2, sb2, ab2, col2, dd2, j0, j1, j2, j3, j5, ho2, hx2, hB2, hb2, hA2, hN2⟩, _⟩ := exc_facts hc2
  obtain ⟨K3, hK3, hs⟩ := hs
  have cD := (hK.keeps hb0) _ _ ho
  have cC := (hK2.keeps hb0) _ _ ho2
  have hbm : (Value.ref D :: bm).contains (.ref C) = b := by
    unfold mroIn at hs
    obtain ⟨cd, h1, h2⟩ := Option.bind_eq_some_iff.mp hs
    unfold clsIn at h1
    split at h1
    · rename_i o1 o2 cd' sl hl
      cases h1
      have := (hK3.keeps hb0) _ _ hl
      rw [cD] at this
      injection this with this
      injection this with _ _ hdat _
      injection hdat with hdat
      subst hdat
      split at h2
      · cases h2
      · simpa using h2
    · cases h1
  have f := tc_notTuple
  obtain ⟨hp, g, d, t, os⟩ := s
  unfold excMatches
  repeat (first | (with_reducible refine wpAny_loadPart_at he ?_; rw [hcl]) | with_reducible refine wpAny_loadPart_at cC ?_ | with_reducible refine wpAny_loadPart_at cD ?_ | (with_reducible refine wpAny_isSubtype_exc cC ?_; rw [hb2]) | (with_reducible refine wpAny_isSubtype_exc cD ?_; rw [hbm]) | wp_step)
  cases b <;> (wp_walk; exact hq)

structure EU (G : Gd) (σ : Store) (x : Exn) (q : Option Value → Prop) (s : Shared) (e : Value) (s' : Shared) : Prop where
  up : Up G.P s.heap x q e s'.heap
  same : ∃ h' tk, s' = { s with heap := h', toks := tk }
  keep : Keep σ s.heap s'.heap
  live : Live s.heap s'.heap
theorem eu_of {e : Value} (q : EX G σ X s e s') : ∃ x, X x ∧ EU G σ x (fun _ => True) s e s' := by
  obtain ⟨x, h1, h2, h3, h4, h5⟩ := q
  exact ⟨x, h1, h2, h3, h4, h5⟩
theorem air_keep {h0 h h' : Heap} {S : List Addr} (k : Keep σ h0 h) (st : AirStep S h0 h h') (hm : ∀ a ∈ S, σ a = some .mark) : Keep σ h0 h' := fun b o e => by
  have hs : (h0.get? b).isSome = true := by rw [e]; rfl
  refine ⟨fun z => ?_, fun z => ?_⟩
  · exact (st.1 b o ((k b o e).1 z) hs).1 fun hb => by rw [hm b hb] at z; cases z
  · obtain ⟨o', e', q⟩ := (k b o e).2 z
    obtain ⟨o'', e'', q'⟩ := (st.1 b o' e' hs).2
    exact ⟨o'', e'', q.trans q'⟩
theorem eu_note {A' : Around} {x : Exn} {q : Option Value → Prop} {e : Value} {Qu : Unit → Shared → Prop} {E : Value → Shared → Prop} (hA : A'.frames = A.frames) (F : Frm G md A env σ s.heap) (u : EU G σ x q s e s')
    (hQ : ∀ s'', (∃ L, EU G σ x (· = some (rawInt L)) s e s'') → Qu () s'') : wpAny G.M A' (noteFrame e env) Qu E s' := by
  obtain ⟨h1, h2, hn', h3, h4, h5, h6, h7, ⟨fenv, outer, L, f1, f2, f3, f4, f5⟩, h9, h10, h11, h12⟩ := F
  obtain ⟨U, ⟨h', tk, rfl⟩, k, l⟩ := u
  have F' : Frames G.base h' (fenv :: outer) := Frames.of' f4 fun b o hb e _ => (k b o e).2 (f5 b hb)
  exact up_note (hA.trans f1) f2 f3 F' l f4.all U fun h'' U' st F'' => hQ _ ⟨L, U', ⟨_, _, rfl⟩, air_keep k st f5, l.trans st.2⟩
theorem eu_flight {A' : Around} {x : Exn} {q : Option Value → Prop} {e : Value} {fl : Option Addr} {Qu : Unit → Shared → Prop} {E : Value → Shared → Prop} (F : Frm G md A env σ s.heap) (u : EU G σ x q s e s') (hU : ¬ q none)
    (hQ : ∀ s'', EU G σ x (· = some (fl.elim .none fun f => rawInt f)) s e s'' → Qu () s'') : wpAny G.M A' (setFlight e fl) Qu E s' := by
  obtain ⟨h1, h2, hn', h3, h4, h5, h6, h7, ⟨fenv, outer, L, f1, f2, f3, f4, f5⟩, h9, h10, h11, h12⟩ := F
  obtain ⟨U, ⟨h', tk, rfl⟩, k, l⟩ := u
  have F' : Frames G.base h' (fenv :: outer) := Frames.of' f4 fun b o hb e _ => (k b o e).2 (f5 b hb)
  exact up_flight (S := frs (fenv :: outer)) F' U hU fun h'' U' st F'' => hQ _ ⟨U', ⟨_, _, rfl⟩, air_keep k st f5, l.trans st.2⟩

theorem eu_after {x : Exn} {q : Option Value → Prop} {e : Value} (u : EU G σ x q s e s') (hc : ∀ b v, σ b ≠ some (.cell v)) : After σ (marks σ) s s' :=
  ⟨u.same, u.keep, fun b o _ => ⟨marks_none, marks_mark, fun v h => absurd h (hc b v)⟩, u.live⟩
theorem eu_st {A' : Around} {x : Exn} {q : Option Value → Prop} {e : Value} (S : St G md A env m loc σ s) (hv : allVals loc = true) (hA : A'.frames = A.frames) (hdp : A'.depth = A.depth) (hun : A'.units = A.units) (u : EU G σ x q s e s') :
    St G ⟨md.n, A'.handled, md.sc⟩ A' env m loc (marks σ) s' := by
  obtain ⟨⟨h1, h2, hn', h3, h4, h5, h6, h7, ⟨fenv, outer, L, f1, f2, f3, f4, f5⟩, h9, h10, h11, h12⟩, hns, sim, hl⟩ := S
  refine ⟨⟨h1, h2, hn', h3, h4, rfl, by rw [hdp]; exact h6, by rw [hun]; exact h7, ⟨fenv, outer, L, hA.trans f1, f2, f3, Frames.of' f4 fun b o hb e _ => (u.keep b o e).2 (f5 b hb), fun a ha => marks_mark (f5 a ha)⟩, fun b o e => (u.keep b o (h9 b o e)).1 (h10 b o e), fun b o e => marks_none (h10 b o e), marks_mark h11, h12⟩, ?_, fun a mo e => ?_, fun y lv e => ?_⟩
  · exact ns_slots hns fun o e => (u.keep _ o e).2 h11
  · obtain ⟨rfl, hm⟩ := marks_is e
    obtain ⟨o, ho, _⟩ := sim a _ hm
    obtain ⟨o', ho'⟩ := u.live a o ho
    exact ⟨o', ho', trivial⟩
  · obtain ⟨v, rfl⟩ := allVals_get hv e
    obtain ⟨k, w, hw, r⟩ := hl y _ e
    exact ⟨k, w, hw, r.mono fun b o e z => ⟨(u.keep b o e).1 z, marks_none z⟩⟩
theorem empty_get (b : Addr) : ({} : Heap).get? b = none := by
  cases hq : ({} : Heap).get? b with
  | none => rfl
  | some o => have := Heap.lt_size hq; simp at this
theorem eu_rel {x : Exn} {q : Option Value → Prop} {e : Value} (sim : Sim G.P σ s.heap) (u : EU G σ x q s e s') : RelV G.P (marks σ) s'.heap (.xc x.C x.ks x.vs) e := by
  obtain ⟨ea, dx, oe, vs, es, n, rfl, h0e, he, hcl, hdi, hd, hsz, htb, h0d, hdx, hk, hv⟩ := u.up
  exact ⟨ea, dx, oe, es, n, rfl, marks_none (fresh_none sim h0e), marks_none (fresh_none sim h0d), he, hcl, hdi, by unfold notCls; rw [hd], hdx, hk, hv.mono fun b o e _ => by rw [empty_get] at e; cases e⟩

theorem run_hand {x : Exn} {e : Value} {Q : Flw → Loc → Store → Prop} {E : Value → Shared → Prop} (S : St G md A env m loc σ s) (hv : allVals loc = true) (hc : ∀ b v, σ b ≠ some (.cell v)) (hX : ∃ fI own, ExcAt G x.C fI own) {hs : List ExceptHandler} :
    ∀ {s' : Shared}, EU G σ x (· = some .none) s e s' → HandW G md loc (marks σ) Q x hs → wpAny G.M A (handleBy e env hs) (SQ G env σ Q s) E s' := by
  induction hs with
  | nil => intro s' _ h; exact h.elim
  | cons y rest ih =>
    obtain ⟨t, n, body, pos⟩ := y
    intro s' u h
    cases t with
    | none => exact h.elim
    | some t =>
    cases t with
    | Name cn cp =>
      cases n with
      | none => exact h.elim
      | some n =>
      cases body with
      | nil => exact h.elim
      | cons b0 suite =>
      obtain ⟨C, b, hE, ⟨fI', own', hC⟩, hS, hB⟩ := h
      obtain ⟨ea, dx, oe, vs, es, k, rfl, h0e, he, hcl, hdi, hd, hsz, htb, h0d, hdx, hk, hvv⟩ := id u.up
      have hA : (A.mark (some (.ref ea))).frames = A.frames := rfl
      have S1 := eu_st S hv hA rfl rfl u
      have hhd : (A.mark (some (.ref ea))).handled = some (.ref ea) := rfl
      obtain ⟨fI, own, hX⟩ := hX
      refine wpAny_handleBy_cons (codeAny_handlers_test (wpAny_mono (hE _ _ env m s' S1) (fun v s1 q => ?_) fun e s q => ?_)) (by intro q; cases q)
      · obtain ⟨r, σ1, ⟨rfl, rfl⟩, h2, h3, S2⟩ := S1.ev q
        cases h2
        have he1 : s1.heap.get? ea = some oe := (h3.keep ea oe he).1 (marks_none (fresh_none S.sim h0e))
        refine exc_matches S2.frm.stays hX hC hS he1 hcl ?_
        have u1 : EU G σ x (· = some .none) s (.ref ea) s1 := by
          obtain ⟨⟨hh, tk, rfl⟩, kk, dd, ll⟩ := h3
          refine ⟨?_, let ⟨_, _, e⟩ := u.same; ⟨hh, tk, by rw [e]⟩, fun b o e => ⟨fun z => ?_, fun z => ?_⟩, u.live.trans ll⟩
          · obtain ⟨ea', dx', oe', vs', es', k', e1, e2, e3, e4, e5, e6, e7, e8, e9, e10, e11, e12⟩ := u.up
            cases e1
            have mv : ∀ b, s.heap.get? b = none → marks σ b = none := fun b hb => marks_none (fresh_none S.sim hb)
            refine ⟨ea, dx', oe', vs', es', k', rfl, e2, (kk _ _ e3).1 (mv _ e2), e4, e5, e6, e7, ?_, e9, (kk _ _ e10).1 (mv _ e9), e11, e12⟩
            rcases e8 with ⟨z1, z2⟩ | ⟨T, oT, ts, f, z1, z2, z3, z4, z5, z6, z7⟩
            · exact .inl ⟨z1, z2⟩
            · exact .inr ⟨T, oT, ts, f, z1, z2, z3, (kk _ _ z4).1 (mv _ z2), z5, z6, z7⟩
          · exact (kk b o ((u.keep b o e).1 z)).1 (marks_none z)
          · obtain ⟨o', e', q⟩ := (u.keep b o e).2 z
            obtain ⟨o'', e'', q'⟩ := (kk b o' e').2 (marks_mark z)
            exact ⟨o'', e'', q.trans q'⟩
        cases b with
        | false => exact ih u1 hB
        | true =>
          obtain ⟨hln, hB⟩ := hB
          refine codeAny_handlers_suite_as (eu_flight S.frm u1 (by simp) fun s2 u2 => ?_)
          have S3 := eu_st S hv hA rfl rfl u2
          refine bind_local S3 hln (eu_rel S.sim u2) fun s3 S4 a4 => ?_
          refine wpAny_mono (hB _ _ env _ s3 S4) (fun f s5 q5 => ?_) fun e s q => ?_
          · obtain ⟨fl, loc5, σ5, m5, ⟨v, rfl, hq5⟩, ⟨w, rfl, r5⟩, a5, n5, sim5, l5⟩ := q5
            refine wpAny_nameGoes (by show env.scope.names.lookup n = _; rw [S.frm.names]; exact hln) n5 (by rw [S.frm.kind]; rfl) fun h6 m6 n6 sb6 => ?_
            have aft := ((eu_after u2 hc).l env.locals).trans (a4.trans a5)
            have hoff : σ5 env.locals = some .mark := by
              obtain ⟨o, _, _, ho, _⟩ := S.ns
              exact (aft.dom _ o ho).2.1 S.frm.off
            have keepR : ∀ b o, s5.heap.get? b = some o → σ5 b = none → h6.get? b = some o ∧ σ5 b = none := fun b o e z => ⟨(sb6.2 b (by rintro rfl; rw [hoff] at z; cases z)).trans e, z⟩
            have a6 : AfterL env.locals σ5 σ5 s5 { s5 with heap := h6, toks := s5.toks + 1 } := ⟨⟨_, _, rfl⟩, fun b o e => ⟨fun z => (keepR b o e z).1, fun z n => ⟨o, (sb6.2 b n).trans e, .refl o⟩⟩, Dom.refl σ5 s5.heap, fun b o e => by
              by_cases hb : b = env.locals
              · subst hb; obtain ⟨o', _, _, e', _⟩ := n6; exact ⟨o', e'⟩
              · exact ⟨o, (sb6.2 b hb).trans e⟩⟩
            refine ⟨.ret v, [], σ5, m6, hq5, ⟨w, rfl, r5.mono keepR⟩, aft.trans a6, n6, fun a mo e => ?_, fun y lv e => by simp at e⟩
            obtain ⟨o, ho, c⟩ := sim5 a mo e
            by_cases ha : a = env.locals
            · subst ha
              rw [hoff] at e; cases e
              obtain ⟨o', _, _, e', _⟩ := n6
              exact ⟨o', e', trivial⟩
            · exact ⟨o, (sb6.2 a ha).trans ho, c.mono keepR⟩
          · obtain ⟨_, hf, _⟩ := q; exact hf.elim
      · obtain ⟨_, hf, _⟩ := q; exact hf.elim
    | _ => exact h.elim

/-- «try: x = e», its exceptions of classes of the text's own -/
theorem ex_try {xn : Str} {px pos tpos : Pos} {e : Expr} {h0 : ExceptHandler} {hs : List ExceptHandler} {Q : Flw → Loc → Store → Prop} {X0 : Exn → Prop} (hx : md.sc.lookup xn = some .local) (hv : allVals loc = true) (hc : ∀ b v, σ b ≠ some (.cell v))
    (h : EvW G md e loc σ (fun v σ' => Q .next ((xn, .val v) :: loc) σ') X0) (hX0 : ∀ x, X0 x → (∃ fI own, ExcAt G x.C fI own) ∧ HandW G md loc (marks σ) Q x (h0 :: hs)) (hn : notComp e = true := by rfl) :
    Ex1 G md (.Try [.Assign [.Name xn px] e pos] (h0 :: hs) [] [] tpos) loc σ Q X := fun A env m s S => by
  refine wpAny_Try_except (wpAny_execs_cons (wpAny_Assign_Name (wpAny_mono (h A env m s S) (fun v s' q => ?_) fun ev s' q => ?_) (swaps_not hn ..)))
  · obtain ⟨r, σ', h1, h2, h3, S'⟩ := S.ev q
    refine bind_local S' hx h2 fun s'' S'' a => ?_
    refine wpAny_execs_nil (wpAny_execs_nil ?_)
    exact ⟨.next, _, σ', _, h1, rfl, (h3.l _).trans a, S''.ns, S''.sim, S''.loc⟩
  · obtain ⟨x, hx0, u⟩ := eu_of q
    obtain ⟨hE, hH⟩ := hX0 x hx0
    refine eu_note rfl S.frm u fun s2 u2 => ?_
    obtain ⟨L, u2⟩ := u2
    refine eu_flight S.frm u2 (by simp) fun s3 u3 => ?_
    exact run_hand S hv hc hE u3 hH
end
end Mine
end

section
open Builtin Builtin.ObjectAttr
namespace Mine

theorem bga_kind : builtinKind "BaseException.__getattribute__" = some .slot := by decide +kernel
theorem bga_split : splitId "BaseException.__getattribute__" = some ("BaseException", "__getattribute__") := by decide +kernel
theorem bga_entry : entryFor table "BaseException.__getattribute__" = some Builtin.«object.__getattribute__» := entryFor_alias (id' := "object.__getattribute__") (by kernel_rfl) (by first | rfl | decide +kernel) (by decide +kernel) (by kernel_rfl)
theorem bga_plain : plainId "BaseException.__getattribute__" = true := by decide +kernel
theorem bga_args (a b : Value) : argsOk "BaseException.__getattribute__" ⟨[a, b], []⟩ := by unfold argsOk; kernel_rfl
theorem bga_bind (self : Value) : bindSpecial (.builtin "BaseException.__getattribute__") self = pure (.builtin "BaseException.__getattribute__", [self]) :=
  (Slot.of (T := "BaseException") (name := "__getattribute__") (owner := "BaseException") (n := "__getattribute__") (by rw [typeLookup_type, builtinLookup_eq_fast]; kernel_rfl) (by decide +kernel) (by decide +kernel) (by decide +kernel)
    (.inl (by decide +kernel)) (by rw [isSubtype_type]; kernel_rfl)).bind self

section
variable {G : Gd} {md : Md} {A : Around} {env : Env} {m : Str → Option Value} {loc : Loc} {σ σ' : Store} {s s' : Shared} {X : Exn → Prop}

theorem get_exc {x : V} {v : Value} {C fI : Addr} {ks own : List Str} {vs : List V} {name : Str} {u : V} {expr : Bool} {Qv : Value → Shared → Prop} {E : Value → Shared → Prop} (hm : ExcAt G C fI own) (hb : G.base.StaysIn s.heap)
    (r : RelV G.P σ s.heap (.xc C ks vs) v) (hn : own.contains name = true) (hg : getF ks vs name = some u) (hp : plainV u = true)
    (h : ∀ w t, RelV G.P σ s.heap u w → Qv w { s with toks := t }) : wpAny G.M A (getAttr v name expr) Qv E s := by
  obtain ⟨a, dx, o, es, n, rfl, hs, hsx, ho, hc, hdi, hnc, hd, hk, hv⟩ := r
  obtain ⟨K, hK, hcc⟩ := hm
  have F := exc_facts hcc
  have X1 := hK.keeps hb
  obtain ⟨nm, q, N, bs, bm, hdct, sn, sb, ab, col, dd, k0, k1, k2, k3, k5, hoC, hx, hB, hbB, hA, hN⟩ := F.obj
  have I : InstAt s.heap a o C (some (dctObj es n)) := ⟨ho, hc, hnc, by rw [hdi]; exact hd⟩
  obtain ⟨e, he, hr⟩ := find_of_ks hk hv hg
  have hf : findObj K C (some (dctObj es n)) name = some (.value e.val) := findObj_own F.dict (F.names name hn) rfl (by
    show lookIn name (dctObj es n) = _
    unfold lookIn
    dsimp only
    rw [he])
  have hh := handed_plain hp hr
  have hsub : Looks G.M s.heap (isInstance (.ref a) (.type "BaseException")) true := I.type.andThen (looks_mroIn X1 (by
    unfold mroIn clsIn
    rw [hoC]
    simp only [Option.bind_some, List.isEmpty_cons, Bool.false_eq_true, if_false]
    rw [hbB]))
  obtain ⟨hp', g, d, t, os⟩ := s
  have L0 := I.type (M := G.M)
  have L1 := looks_findIn (M := G.M) X1 F.gets
  have L2 := looks_findIn (M := G.M) X1 F.hook
  have L3 := looks_find (M := G.M) X1 I hf
  unfold getAttr getAttrBy
  refine wpAny_bind (wpAny_mkText (wpAny_holding (wpAny_bind (L0.at (wpAny_bind (L1.at ?_))))))
  show wpAny _ _ (getAttrByItsOwn (.ref a) (.str name t) (.ref C) (.builtin "BaseException.__getattribute__") true expr) _ _ _
  unfold getAttrByItsOwn hookBefore callGetattribute boundAndCalled
  have h1 : (if onTheHeap (.ref C) = true then typeLookup (.ref C) (Str.ofString "__getattr__") else pure none) = typeLookup (.ref C) (Str.ofString "__getattr__") := rfl
  rw [h1]
  refine wpAny_bind (L2.at ?_)
  have h2 : (expr && onTheHeap (.builtin "BaseException.__getattribute__")) = false := by
    rw [show onTheHeap (.builtin "BaseException.__getattribute__") = false from rfl, Bool.and_false]
  rw [h2, if_neg (by decide)]
  refine wpAny_bind (wpAny_attempt (wpAny_holding ?_))
  rw [bga_bind]
  refine wpAny_bind (wpAny_pure ?_)
  refine wpAny_call (codeAny_call_builtin bga_plain bga_entry (@check_slot G.M _ _ _ "BaseException.__getattribute__" "BaseException" "__getattribute__" (.ref a) [.str name t] [] _ bga_kind bga_split hsub (bga_args _ _) ?_))
  unfold Builtin.«object.__getattribute__»
  refine wpAny_bind (wpAny_pure (wpAny_bind (wpAny_pure (wpAny_bind (L0.at (wpAny_bind (L3.at ?_)))))))
  refine wpAny_pure ?_
  show wpAny _ _ (handedOut e.val) _ _ _
  rw [handedOut_of hh]
  exact wpAny_pure (h _ _ hr)

inductive AtXR (G : Gd) (name : Str) (Q : V → Store → Prop) (x : V) (σ1 : Store) : Prop | mk (C fI : Addr) (own ks : List Str) (vs : List V) (u : V) (h1 : x = .xc C ks vs) (h2 : ExcAt G C fI own) (h3 : own.contains name = true) (h4 : getF ks vs name = some u) (h5 : plainV u = true) (q : Q u σ1)
theorem ev_attr_exc {e : Expr} {name : Str} {pos : Pos} {Q : V → Store → Prop} (h : EvW G md e loc σ (AtXR G name Q) X)
    (he : ∀ env, eval (.Attribute e name pos) env = (do
      let o ← eval e env
      standAt pos.atName
      let r ← holding [o] (getAttr o name true)
      letTemporaryGo e o r
      pure r) := by intro _; with_unfolding_all rfl) : EvW G md (.Attribute e name pos) loc σ Q X := fun A env m s S => by
  refine Attribute_any_ (wpAny_mono (h A env m s S) (fun v s1 q => ?_) fun _ _ z => z) (he env)
  obtain ⟨x, σ1, ⟨C, fI, own, ks, vs, u, rfl, l2, l3, l4, l5, l6⟩, h2, h3, S1⟩ := S.ev q
  exact get_exc (x := .none) l2 S1.frm.stays h2 l3 l4 l5 fun w t hw => ⟨u, σ1, l6, hw, h3.trans (.tok ..), S1.sim⟩
end
end Mine
end

section
namespace Mine

/-- a store that has more, and else the same -/
noncomputable def Ext (σ σ' : Store) : Prop := ∀ b, σ b ≠ none → σ' b = σ b
noncomputable def relabelSc (names sc : List (Str × NameKind)) : List (Str × NameKind) := names.map fun (n, k) => if (k == .free && sc.lookup n == some .cell) then (n, .cell) else (n, k)
noncomputable def clOf : List (Str × NameKind) → Loc → List (Str × Addr) → Option (List (Str × Addr))
  | [], _, acc => some acc
  | (n, k) :: r, loc, acc => if k == .free then (match loc.lookup n with
      | some (.cell c) => clOf r loc ((n, c) :: acc)
      | _ => none) else clOf r loc acc
noncomputable def cellsL (cl : List (Str × Addr)) : Loc := cl.map fun x => (x.1, .cell x.2)

noncomputable def TestsP (G : Gd) (md : Md) (ifs : List Expr) (loc : Loc) (σ : Store) (b : Bool) : Prop := match ifs with
  | [] => b = true
  | [t] => TsW G md t loc σ (fun b' σ' => b' = b ∧ σ' = σ) (fun _ => False)
  | _ => False
/-- what a comprehension collects, where its parts change nothing -/
noncomputable def CompL (G : Gd) (md : Md) (target : Expr) (ifs : List Expr) (elt : Expr) (loc : Loc) (σ : Store) : List V → List V → Prop
  | [], ys => ys = []
  | v :: vs, ys => ∃ loc', bindT target v loc = some loc' ∧ ∃ b, (∀ σ', Ext σ σ' → TestsP G md ifs loc' σ' b) ∧
      if b = true then ∃ y ys', ys = y :: ys' ∧ (∀ σ', Ext σ σ' → EvW G md elt loc' σ' (fun r σ'' => r = y ∧ σ'' = σ') (fun _ => False)) ∧ CompL G md target ifs elt loc σ vs ys'
      else CompL G md target ifs elt loc σ vs ys

section
variable {G : Gd} {md : Md} {A : Around} {env : Env} {m : Str → Option Value} {loc : Loc} {σ σ' : Store} {s s' : Shared} {X : Exn → Prop}

theorem closure_of (S : LocRel G.P σ s.heap env m loc) {names : List (Str × NameKind)} : ∀ {acc cl : List (Str × Addr)}, clOf names loc acc = some cl →
    (forIn names acc fun x cs => if x.2 == .free then (do let c ← cellOf env x.1; pure (ForInStep.yield ((x.1, c) :: cs))) else pure (ForInStep.yield cs) : Sem (List (Str × Addr))) = pure cl := by
  induction names with
  | nil => intro acc cl h; cases h; rfl
  | cons x r ih =>
    obtain ⟨n, k⟩ := x
    intro acc cl h
    unfold clOf at h
    rw [List.forIn_cons]
    by_cases hk : (k == NameKind.free) = true
    · rw [if_pos hk] at h
      split at h
      · rename_i c hc
        obtain ⟨_, hl, _⟩ := S n _ hc
        rw [if_pos hk]
        unfold cellOf
        rw [hl]
        simp only [pure_bind]
        exact ih h
      · cases h
    · rw [if_neg hk] at h
      rw [if_neg hk, pure_bind]
      exact ih h
theorem closureFor_of {scope : Scope} {cl : List (Str × Addr)} (S : LocRel G.P σ s.heap env m loc) (h : clOf scope.names loc [] = some cl) : closureFor scope env = pure cl := by
  have := closure_of (env := env) S h
  unfold closureFor
  rw [← this]
  exact (bind_pure _)

theorem ext_upd {D : Addr} {mo : MObj} (h : σ D = none) : Ext σ (upd σ D mo) := fun b hb => upd_ne _ _ (by rintro rfl; exact hb h)
theorem Ext.trans {σ₁ σ₂ σ₃ : Store} (x : Ext σ₁ σ₂) (y : Ext σ₂ σ₃) : Ext σ₁ σ₃ := fun b hb => by
  have e := x b hb
  rw [← e] at hb ⊢
  exact y b hb
theorem after_L {L : Addr} {σ₁ σ₂ σ₃ : Store} {s₁ s₂ s₃ : Shared} (x : After σ₁ σ₂ s₁ s₂) (y : AfterL L σ₂ σ₃ s₂ s₃) (h : s₁.heap.get? L = none) : After σ₁ σ₃ s₁ s₃ := by
  obtain ⟨⟨h1, t, rfl⟩, k, d, l⟩ := x
  obtain ⟨⟨h', t', rfl⟩, k', d', l'⟩ := y
  refine ⟨⟨h', t', rfl⟩, fun b o e => ⟨fun z => (k' b o ((k b o e).1 z)).1 ((d b o e).1 z), fun z => ?_⟩, d.trans l d', l.trans l'⟩
  obtain ⟨o', e', q⟩ := (k b o e).2 z
  obtain ⟨o'', e'', q'⟩ := (k' b o' e').2 ((d b o e).2.1 z) (by rintro rfl; rw [h] at e; cases e)
  exact ⟨o'', e'', q.trans q'⟩
theorem WStep.after0 {wr : List Addr} {h' : Heap} {tk : Nat} {σ0 : Store} {s0 : Shared} (w : WStep σ wr s.heap h') (nw : ∀ b ∈ wr, s0.heap.get? b = none) (a : After σ0 σ s0 s) : After σ0 σ s0 { s with heap := h', toks := tk } := by
  obtain ⟨⟨h, t, rfl⟩, k, d, l⟩ := a
  have nm : ∀ b o, s0.heap.get? b = some o → b ∉ wr := fun b o e hm => by rw [nw b hm] at e; cases e
  refine ⟨⟨_, _, rfl⟩, fun b o e => ⟨fun z => w.keep b o (nm b o e) ((k b o e).1 z), fun z => ?_⟩, d, fun b o e => let ⟨o', e'⟩ := l b o e; ⟨o', w.keep b o' (nm b o e) e'⟩⟩
  obtain ⟨o', e', q⟩ := (k b o e).2 z
  exact ⟨o', w.keep b o' (nm b o e) e', q⟩

theorem lookup_cells : ∀ {cl : List (Str × Addr)} {x : Str} {lv : LV}, (cellsL cl).lookup x = some lv → ∃ c, lv = .cell c ∧ cl.lookup x = some c
  | [], _, _, e => by simp [cellsL] at e
  | (n, c) :: cl, x, lv, e => by
    unfold cellsL at e
    rw [List.map_cons, List.lookup_cons] at e
    rw [List.lookup_cons]
    split at e
    · rename_i h; cases e; exact ⟨c, rfl, by rw [h]⟩
    · rename_i h
      obtain ⟨c', h1, h2⟩ := lookup_cells (cl := cl) e
      exact ⟨c', h1, by rw [h]; exact h2⟩
theorem clOf_mem {names : List (Str × NameKind)} : ∀ {acc cl : List (Str × Addr)}, clOf names loc acc = some cl → ∀ x ∈ cl, x ∈ acc ∨ ((x.1, NameKind.free) ∈ names ∧ loc.lookup x.1 = some (.cell x.2)) := by
  induction names with
  | nil => intro acc cl h x hx; cases h; exact .inl hx
  | cons y r ih =>
    obtain ⟨n, k⟩ := y
    intro acc cl h x hx
    unfold clOf at h
    by_cases hk : (k == NameKind.free) = true
    · rw [if_pos hk] at h
      split at h
      · rename_i c hc
        rcases ih h x hx with q | ⟨q1, q2⟩
        · rcases List.mem_cons.mp q with rfl | q
          · obtain rfl := beq_iff_eq.mp hk
            exact .inr ⟨List.mem_cons_self .., hc⟩
          · exact .inl q
        · exact .inr ⟨List.mem_cons_of_mem _ q1, q2⟩
      · cases h
    · rw [if_neg hk] at h
      rcases ih h x hx with q | ⟨q1, q2⟩
      · exact .inl q
      · exact .inr ⟨List.mem_cons_of_mem _ q1, q2⟩
theorem mem_of_lookup {cl : List (Str × Addr)} {x : Str} {c : Addr} (h : cl.lookup x = some c) : (x, c) ∈ cl := by
  induction cl with
  | nil => simp at h
  | cons y cl ih =>
    obtain ⟨n, c'⟩ := y
    rw [List.lookup_cons] at h
    split at h
    · rename_i hq; cases h
      have : x = n := beq_iff_eq.mp hq
      subst this; exact List.mem_cons_self ..
    · exact List.mem_cons_of_mem _ (ih h)

theorem comp_loop {elt target iter : Expr} {ifs : List Expr} {scope : Scope} {pos : Pos} {it acc : Value} {cenv : Env} {R : Result → Shared → Prop} (I : Nat → Shared → Prop)
    (turn : ∀ n s, I n s → wpAny G.M A (pyNext it) (fun r s₁ => match r with
      | none => R (.ok .next) s₁
      | some v => wpAny G.M A (letOwnedTupleGo target it v) (fun _ s₁' => wpAny G.M A (assign target cenv v) (fun _ s₂ =>
          wpAny G.M A (forIn ifs true fun c r => if r = true then do let ok ← isTrue c cenv (eval c cenv); pure (ForInStep.yield ok) else pure (ForInStep.yield r)) (fun ok s₃ =>
            if ok = true then wpAny G.M A (eval elt cenv) (fun x s₄ =>
              wpAny G.M A (call (.builtin "list.append") [acc, x]) (fun _ s₅ => ∃ m, m < n ∧ I m s₅) (fun _ _ => False) s₄) (fun _ _ => False) s₃
            else ∃ m, m < n ∧ I m s₃) (fun _ _ => False) s₂) (fun _ _ => False) s₁') (fun _ _ => False) s₁) (fun _ _ => False) s)
    (n : Nat) (h : I n s) : codeAny G.M A (.compLoop (.ListComp elt [⟨target, iter, ifs, 0⟩] scope pos) 0 it acc cenv) R s := by
  refine codeAny_loop rfl I (fun n s hI => ?_) n h
  show wpAny _ A ((compTurn (.ListComp elt [⟨target, iter, ifs, 0⟩] scope pos) 0 it acc cenv).onRaise (fun x => do noteFrame x cenv; theTreesLotGoes x)) _ _ s
  refine wpAny_noted ?_
  rw [compTurn_list]
  have no : ∀ {e : Value} {s : Shared} {P : Prop}, (fun (_ : Value) (_ : Shared) => False) e s → P := fun h => h.elim
  refine wpAny_bind (wpAny_standAt (wpAny_bind (wpAny_mono (turn n s hI) (fun r s₁ h₁ => ?_) fun _ _ h' => h'.elim)))
  cases r with
  | none => exact wpAny_pure h₁
  | some v =>
    refine wpAny_bind (wpAny_mono h₁ (fun _ s₁' h₁' => ?_) fun _ _ h' => h'.elim)
    refine wpAny_bind (wpAny_mono h₁' (fun _ s₂ h₂ => wpAny_bind (wpAny_mono h₂ (fun ok s₃ h₃ => ?_) fun _ _ h' => h'.elim)) fun _ _ h' => h'.elim)
    cases ok with
    | false => exact wpAny_pure ⟨rfl, h₃⟩
    | true =>
      refine wpAny_bind (wpAny_bind (wpAny_mono h₃ (fun x s₄ h₄ => wpAny_bind (wpAny_mono h₄ (fun _ s₅ h₅ => wpAny_pure (wpAny_pure ⟨rfl, h₅⟩)) fun _ _ h' => h'.elim)) fun _ _ h' => h'.elim))
end
end Mine
end

section
namespace Mine

section
variable {G : Gd} {md : Md} {A : Around} {env : Env} {m : Str → Option Value} {loc : Loc} {σ σ' : Store} {s s' : Shared} {X : Exn → Prop}

/-- the store while a comprehension is under way -/
noncomputable def cst (σ : Store) (D C : Addr) (ys : List V) : Store := upd (upd σ D (.lst ys)) C .mark
theorem cst_ext {D C : Addr} {ys : List V} (h1 : σ D = none) (h2 : σ C = none) : Ext σ (cst σ D C ys) := fun b hb => by
  unfold cst
  rw [upd_ne _ _ (by rintro rfl; exact hb h2), upd_ne _ _ (by rintro rfl; exact hb h1)]
theorem cst_D {D C : Addr} {ys : List V} (h : D ≠ C) : cst σ D C ys D = some (.lst ys) := by unfold cst; rw [upd_ne _ _ h, upd_eq]
theorem cst_C {D C : Addr} {ys : List V} : cst σ D C ys C = some .mark := upd_eq ..
theorem cst_put {D C : Addr} {ys zs : List V} (h : D ≠ C) : upd (cst σ D C ys) D (.lst zs) = cst σ D C zs := by
  unfold cst
  rw [upd_comm (Ne.symm h), upd_upd]
theorem cst_none {D C b : Addr} {ys : List V} (h : cst σ D C ys b = none) : σ b = none ∧ b ≠ D ∧ b ≠ C := by
  have h1 : b ≠ C := by rintro rfl; rw [cst_C] at h; cases h
  have h2 : b ≠ D := by
    rintro rfl
    rw [cst_D h1] at h; cases h
  unfold cst at h
  rw [upd_ne _ _ h1, upd_ne _ _ h2] at h
  exact ⟨h, h2, h1⟩

theorem relabel_names {scope : Scope} (F : Frm G md A env σ s.heap) : (relabel scope env).names = relabelSc scope.names md.sc := by
  unfold relabel relabelSc
  have h1 : (env.scope.kind == ScopeKind.function) = true := by rw [F.kind]; rfl
  have h2 : ∀ n, env.kindOf n = md.sc.lookup n := fun n => by show env.scope.names.lookup n = _; rw [F.names]
  dsimp only
  congr 1
  funext x
  obtain ⟨n, k⟩ := x
  dsimp only
  rw [h1, h2 n, Bool.and_true]

theorem tests_run {ifs : List Expr} {b : Bool} {Q : Bool → Shared → Prop} (S : St G md A env m loc σ s) (h : TestsP G md ifs loc σ b) (hq : ∀ s', After σ σ s s' → St G md A env m loc σ s' → Q b s') :
    wpAny G.M A (forIn ifs true fun c r => if r = true then do let ok ← isTrue c env (eval c env); pure (ForInStep.yield ok) else pure (ForInStep.yield r)) Q (fun _ _ => False) s := by
  unfold TestsP at h
  split at h
  · subst h
    exact wpAny_tests_nil (hq s (.refl ..) S)
  · refine wpAny_tests_one (wpAny_mono (h A env m s S) (fun b' s' q => ?_) fun _ _ q => by obtain ⟨_, hf, _⟩ := q; exact hf.elim)
    obtain ⟨σ', ⟨rfl, rfl⟩, h2, h3⟩ := q
    exact hq s' h2 (S.after h2 h3)
  · exact h.elim

noncomputable abbrev cMd (md : Md) (scope : Scope) : Md := ⟨md.n, md.hd, relabelSc scope.names md.sc⟩
inductive CmpI (G : Gd) (md : Md) (A : Around) (cenv : Env) (cl : List (Str × Addr)) (target : Expr) (ifs : List Expr) (elt : Expr) (Sw : Nat → Store → Heap → Prop) (σ σ2 : Store) (D C : Addr) (xs ys : List V) (s : Shared) (n : Nat) (s' : Shared) : Prop
  | mk (i : Nat) (acc rest : List V) (m' : Str → Option Value) (h1 : n = xs.length + 1 - i) (h2 : i ≤ xs.length) (S : St G md A cenv m' (cellsL cl) (cst σ2 D C acc) s') (A1 : After σ (cst σ2 D C acc) s s') (st : Sw i (cst σ2 D C acc) s'.heap) (hys : ys = acc ++ rest) (hl : acc.length ≤ i) (hC : CompL G md target ifs elt (cellsL cl) σ2 (xs.drop i) rest)
theorem turn_lt {i n : Nat} (h : i < n) : n + 1 - (i + 1) < n + 1 - i := by omega
theorem comp_turns {elt target : Expr} {ifs : List Expr} {scope : Scope} {cl : List (Str × Addr)} {I : Addr} {wr : List Addr} {nx : Nat → Store → Option (Option V)} {Sw : Nat → Store → Heap → Prop} {xs ys : List V} {σ2 : Store} {cenv : Env} {D C : Addr} {R : Result → Shared → Prop}
    (W : Wk G target I wr nx Sw) (hh : A.handled = none) (hd : md.hd = none) (ht : targetOk (relabelSc scope.names md.sc) target = true) (nb : ∀ b ∈ wr, G.base.get? b = none) (nw : ∀ b ∈ wr, s.heap.get? b = none) (hσD : σ2 D = none) (hσC : σ2 C = none) (hDC : D ≠ C) (hC0 : s.heap.get? C = none)
    (hnx : ∀ σ', Ext σ2 σ' → ∀ i, nx i σ' = some xs[i]?) (hxs : xs.length ≤ 2 ^ 20) (locC : ∀ (zs : List V) (h'' : Heap) (m'' : Str → Option Value), LocRel G.P (cst σ2 D C zs) h'' cenv m'' (cellsL cl)) (hL : cenv.locals = C)
    (hRR : ∀ s5 vs n, s5.heap.get? D = some (lstObj vs n) → RelVs G.P (cst σ2 D C ys) s5.heap ys vs.toList → After σ (cst σ2 D C ys) s s5 → Sim G.P (cst σ2 D C ys) s5.heap → (∃ m, s5.heap.Ns C m) → R (.ok .next) s5) :
    ∀ n s', CmpI G (cMd md scope) A cenv cl target ifs elt Sw σ σ2 D C xs ys s n s' → wpAny G.M A (pyNext (.ref I)) (fun r s₁ => match r with
      | none => R (.ok .next) s₁
      | some v => wpAny G.M A (letOwnedTupleGo target (.ref I) v) (fun _ s₁' => wpAny G.M A (assign target cenv v) (fun _ s₂ =>
          wpAny G.M A (forIn ifs true fun c r => if r = true then do let ok ← isTrue c cenv (eval c cenv); pure (ForInStep.yield ok) else pure (ForInStep.yield r)) (fun ok s₃ =>
            if ok = true then wpAny G.M A (eval elt cenv) (fun x s₄ =>
              wpAny G.M A (call (.builtin "list.append") [.ref D, x]) (fun _ s₅ => ∃ m, m < n ∧ CmpI G (cMd md scope) A cenv cl target ifs elt Sw σ σ2 D C xs ys s m s₅) (fun _ _ => False) s₄) (fun _ _ => False) s₃
            else ∃ m, m < n ∧ CmpI G (cMd md scope) A cenv cl target ifs elt Sw σ σ2 D C xs ys s m s₃) (fun _ _ => False) s₂) (fun _ _ => False) s₁') (fun _ _ => False) s₁) (fun _ _ => False) s' := by
  subst hL
  rintro n s1 ⟨i, acc, rest, m', rfl, hi, S1, A1, st1, hys, hlen, hCL⟩
  have ext := cst_ext (ys := acc) hσD hσC
  by_cases hlt : i < xs.length
  · rw [List.drop_eq_getElem_cons hlt] at hCL
    obtain ⟨loc', hb, b, hT, hB⟩ := hCL
    refine W.item A i _ s1 xs[i] _ _ _ hh S1.sim st1 (by rw [hnx _ ext, List.getElem?_eq_getElem hlt]) (fun u s' h => h) fun u h' tk hr w st2 => ?_
    have off := W.off _ _ _ st1
    have S2' := w.st (tk := tk) off nb S1
    have a2' := w.after0 (tk := tk) nw A1
    refine assign_T S2' hh ht hb hr fun m3 s3 S3 a3 => ?_
    have a3' := after_L a2' a3 hC0
    refine tests_run S3 (hT _ ext) fun s4 a4 S4 => ?_
    have a4' := a3'.trans a4
    have st4 : Sw (i + 1) (cst σ2 D cenv.locals acc) s4.heap := W.frame _ _ _ _ _ st2 fun b o e z => by
      have e3 := (a3.keep b o e).1 z
      exact ⟨(a4.keep b o e3).1 z, z⟩
    have wk : ∀ {m'' : Str → Option Value} {zs : List V} {s'' : Shared}, St G (cMd md scope) A (cenv) m'' loc' (cst σ2 D cenv.locals zs) s'' → St G (cMd md scope) A (cenv) m'' (cellsL cl) (cst σ2 D cenv.locals zs) s'' := fun S' =>
      ⟨S'.frm, S'.ns, S'.sim, locC _ _ _⟩
    cases b with
    | false =>
      rw [if_neg (by decide)] at hB ⊢
      exact ⟨xs.length + 1 - (i + 1), turn_lt hlt, i + 1, acc, rest, _, rfl, hlt, wk S4, a4', st4, hys, Nat.le_succ_of_le hlen, hB⟩
    | true =>
      rw [if_pos rfl] at hB ⊢
      obtain ⟨y, ys', rfl, hE, hB⟩ := hB
      refine wpAny_mono (hE _ ext A (cenv) _ s4 S4) (fun v s5 q => ?_) fun _ _ q => by obtain ⟨_, hf, _⟩ := q; exact hf.elim
      obtain ⟨r, σ5, ⟨rfl, rfl⟩, k2, k3, S5⟩ := S4.ev q
      have app := m_append (G := G) (X := fun _ => False) (Q := fun v σ6 => v = .none ∧ σ6 = cst σ2 D cenv.locals (acc ++ [r])) (y := r) (cst_D (σ := σ2) (ys := acc) hDC) (Nat.le_trans hlen (Nat.le_trans (Nat.le_of_lt hlt) hxs)) ⟨rfl, cst_put hDC⟩
      refine wpAny_mono (app (cMd md scope) A (cenv) _ _ s5 [.ref D, v] (Nat.zero_le _) hd S5 (.cons rfl (.cons k2 .nil))) (fun v6 s6 q6 => ?_) fun _ _ q => by obtain ⟨_, hf, _⟩ := q; exact hf.elim
      obtain ⟨r6, σ6, ⟨rfl, rfl⟩, _, j3, S6⟩ := S5.ev q6
      have st6 : Sw (i + 1) (cst σ2 D cenv.locals (acc ++ [r])) s6.heap := W.frame _ _ _ _ _ st4 fun b o e z => by
        have e3 := (k3.keep b o e).1 z
        exact ⟨(j3.keep b o e3).1 z, (j3.dom b o e3).1 z⟩
      exact ⟨xs.length + 1 - (i + 1), turn_lt hlt, i + 1, acc ++ [r], ys', _, rfl, hlt, wk S6, (a4'.trans k3).trans j3, st6, by rw [hys]; simp, by rw [List.length_append]; exact Nat.succ_le_succ hlen, hB⟩
  · have hie : i = xs.length := Nat.le_antisymm hi (Nat.not_lt.mp hlt)
    subst hie
    rw [List.drop_length] at hCL
    have hr : rest = [] := hCL
    subst hr
    rw [List.append_nil] at hys
    subst hys
    refine W.done A _ _ s1 _ _ hh S1.sim st1 (by rw [hnx _ ext]; simp) fun h' tk w => ?_
    have off := W.off _ _ _ st1
    have S2' := w.st (tk := tk) off nb S1
    have a2' := w.after0 (tk := tk) nw A1
    obtain ⟨o, ho, vs, k, rfl, hr⟩ := S2'.sim D _ (cst_D hDC)
    exact hRR _ vs k ho hr a2' S2'.sim ⟨_, S2'.ns⟩

theorem comp_block {elt target iter : Expr} {ifs : List Expr} {scope : Scope} {pos : Pos} {cl : List (Str × Addr)} {I : Addr} {wr : List Addr} {nx : Nat → Store → Option (Option V)} {Sw : Nat → Store → Heap → Prop} {xs ys : List V} {σ2 : Store} {s2 : Shared}
    {RR : Value → Addr → Result → Shared → Prop} {E : Value → Shared → Prop} (W : Wk G target I wr nx Sw) (hd : md.hd = none)
    (hcell : ∀ x ∈ scope.names, x.2 ≠ .cell) (hkind : scope.kind = .function) (hcl : clOf scope.names loc [] = some cl) (hck : ∀ x ∈ cl, (relabelSc scope.names md.sc).lookup x.1 = some .cell ∨ (relabelSc scope.names md.sc).lookup x.1 = some .free)
    (ht : targetOk (relabelSc scope.names md.sc) target = true) (S2 : St G md A env m loc σ2 s2) (a2 : After σ σ2 s s2) (st : Sw 0 σ2 s2.heap) (hbs : G.base.StaysIn s.heap) (nw : ∀ b ∈ wr, s.heap.get? b = none)
    (hnx : ∀ σ', Ext σ2 σ' → ∀ i, nx i σ' = some xs[i]?) (hxs : xs.length ≤ 2 ^ 20) (hC : CompL G ⟨md.n, md.hd, relabelSc scope.names md.sc⟩ target ifs elt (cellsL cl) σ2 xs ys)
    (hRR : ∀ D C s5 vs n, σ2 D = none → σ2 C = none → D ≠ C → s.heap.get? D = none → s.heap.get? C = none → s2.heap.get? D = none → s2.heap.get? C = none → s5.heap.get? D = some (lstObj vs n) → RelVs G.P (cst σ2 D C ys) s5.heap ys vs.toList → After σ (cst σ2 D C ys) s s5 → Sim G.P (cst σ2 D C ys) s5.heap → (∃ m, s5.heap.Ns C m) → RR (.ref D) C (.ok .next) s5) :
    wpAny G.M A (newList []) (fun acc s₃ => wpAny G.M A (newFunctionEnv scope env.globals cl [] env.qual none .none (some env)) (fun cenv s₄ =>
      codeAny G.M A (.compStart (.ListComp elt [⟨target, iter, ifs, 0⟩] scope pos) 0 (.ref I) acc { cenv with scope := relabel scope env }) (RR acc cenv.locals) s₄) E s₃) E s2 := by
  have hh : A.handled = none := S2.frm.hand.trans hd
  refine wpAny_newObj_type (wpAny_newFunctionEnv hcell (by intro y hy; simp at hy) (fun h₁ hns₁ hsb₁ => ?_) hkind)
  dsimp only at hns₁ hsb₁ ⊢
  generalize hH2 : s2.heap.push { cls := .type "list", dict := none, data := .seq ([] : List Value).toArray } = H2 at hns₁ hsb₁ ⊢
  have hDf := free_size s2.heap
  have hCsz : H2.objs.size = s2.heap.objs.size + 1 := by rw [← hH2, Heap.size_push]
  have hDC : s2.heap.objs.size ≠ H2.objs.size := by rw [hCsz]; exact Nat.ne_of_lt (Nat.lt_succ_self _)
  have hk2 : ∀ b o, s2.heap.get? b = some o → H2.get? b = some o := fun b o e => hH2 ▸ Heap.get?_push_of_some _ e
  have hDo : H2.get? s2.heap.objs.size = some (lstObj #[] 0) := hH2 ▸ Heap.get?_push_size _ rfl
  have hCf : H2.get? H2.objs.size = none := free_size H2
  have hCf2 : s2.heap.get? H2.objs.size = none := by
    cases hq : s2.heap.get? H2.objs.size with
    | none => rfl
    | some o => rw [hk2 _ _ hq] at hCf; cases hCf
  have hk1 : ∀ b o, H2.get? b = some o → h₁.get? b = some o := fun b o e => (hsb₁.2 b (by rintro rfl; rw [hCf] at e; cases e)).trans (Heap.get?_push_of_some _ e)
  generalize hDn : s2.heap.objs.size = D at *
  generalize hCn : H2.objs.size = C at *
  have hσD : σ2 D = none := fresh_none S2.sim hDf
  have hσC : σ2 C = none := fresh_none S2.sim hCf2
  have back : ∀ b, s2.heap.get? b = none → s.heap.get? b = none := fun b hb => by
    cases hq : s.heap.get? b with
    | none => rfl
    | some o => obtain ⟨o', e'⟩ := a2.live b o hq; rw [hb] at e'; cases e'
  obtain ⟨g1, m1⟩ := grow_put (tk := s2.toks) (mo := .lst []) S2.sim hk2 hDf hDo ⟨#[], 0, rfl, rfl⟩
  obtain ⟨oC, esC, epC, hoC, rC⟩ := id hns₁
  obtain ⟨g2, m2⟩ := grow_put (s := { s2 with heap := H2, toks := s2.toks }) (tk := s2.toks + ([] : List (Str × Value)).length) (mo := .mark) m1 hk1 hCf hoC trivial
  have S4e := (S2.after g1 m1).after g2 m2
  have hnames := relabel_names (scope := scope) S2.frm
  have hCbase : G.base.get? C = none := by
    cases hq : G.base.get? C with
    | none => rfl
    | some o => have := S2.frm.stays _ _ hq; rw [hCf2] at this; cases this
  have locC : ∀ (zs : List V) (h'' : Heap) (m'' : Str → Option Value), LocRel G.P (cst σ2 D C zs) h'' (compEnvC scope cl C env) m'' (cellsL cl) := fun zs h'' m'' x lv e => by
    obtain ⟨c, rfl, hc⟩ := lookup_cells e
    have hm := mem_of_lookup hc
    rcases clOf_mem hcl _ hm with q | ⟨_, q⟩
    · simp at q
    · obtain ⟨_, _, v, hv⟩ := S2.loc _ _ q
      refine ⟨?_, hc, v, ?_⟩
      · show (relabel scope env).names.lookup x = _ ∨ (relabel scope env).names.lookup x = _
        rw [hnames]
        exact hck _ hm
      · rw [cst_ext hσD hσC c (by rw [hv]; simp)]; exact hv
  have S4 : St G ⟨md.n, md.hd, relabelSc scope.names md.sc⟩ A (compEnvC scope cl C env) (fun x => ([] : List (Str × Value)).reverse.lookup x) (cellsL cl) (cst σ2 D C []) { s2 with heap := h₁, toks := s2.toks + ([] : List (Str × Value)).length } := by
    obtain ⟨⟨q1, q2, q3, q4, q5, q6, q7, q8, ⟨fenv, outer, Lf, f1, f2, f3, f4, f5⟩, q9, q10, q11, q12⟩, _, _, _⟩ := S4e
    exact ⟨⟨q1, hkind, hnames, q4, q5, q6, q7, q8, ⟨fenv, outer, Lf, f1, f2, f3, f4, f5⟩, q9, q10, cst_C, hCbase⟩, hns₁, m2, locC _ _ _⟩
  have A4 : After σ (cst σ2 D C []) s { s2 with heap := h₁, toks := s2.toks + ([] : List (Str × Value)).length } := (a2.trans g1).trans g2
  have nb : ∀ b ∈ wr, G.base.get? b = none := fun b hb => by
    have h1 := nw b hb
    cases hq : G.base.get? b with
    | none => rfl
    | some o => have h2 := hbs _ _ hq; rw [h1] at h2; cases h2
  have stl : Sw 0 (cst σ2 D C []) h₁ := W.frame _ _ _ _ _ st fun b o e z => by
    have h1 := hk1 b o (hk2 b o e)
    refine ⟨h1, ?_⟩
    have hbC : b ≠ C := by rintro rfl; rw [hCf2] at e; cases e
    have hbD : b ≠ D := by rintro rfl; rw [hDf] at e; cases e
    unfold cst
    rw [upd_ne _ _ hbC, upd_ne _ _ hbD]; exact z
  have loop : codeAny G.M A (.compLoop (.ListComp elt [⟨target, iter, ifs, 0⟩] scope pos) 0 (.ref I) (.ref D) (compEnvC scope cl C env)) (RR (.ref D) C) { s2 with heap := h₁, toks := s2.toks + ([] : List (Str × Value)).length } :=
    comp_loop _ (comp_turns W hh hd ht nb nw hσD hσC hDC (back C hCf2) hnx hxs locC rfl fun s5 vs n => hRR D C s5 vs n hσD hσC hDC (back D hDf) (back C hCf2) hDf hCf2) (xs.length + 1)
      ⟨0, [], ys, _, rfl, Nat.zero_le _, S4, A4, stl, rfl, Nat.le_refl _, by rw [List.drop_zero]; exact hC⟩
  exact codeAny_compStart_list loop (W.self A 0 _ _ _ _ hh stl loop)
end
end Mine
end

section
namespace Mine

noncomputable def scopeOk (scope : Scope) (sc : List (Str × NameKind)) (target : Expr) (cl : List (Str × Addr)) : Bool :=
  scope.names.all (fun x => x.2 != .cell && (x.2 != .local || scope.names.lookup x.1 == some .local)) && scope.kind == .function && targetOk (relabelSc scope.names sc) target
    && cl.all fun x => (relabelSc scope.names sc).lookup x.1 == some .cell || (relabelSc scope.names sc).lookup x.1 == some .free

section
variable {G : Gd} {md : Md} {A : Around} {env : Env} {m : Str → Option Value} {loc : Loc} {σ σ' : Store} {s s' : Shared} {X : Exn → Prop}

/-- what a comprehension's parts come to -/
noncomputable def CompC (G : Gd) (md : Md) (target : Expr) (ifs : List Expr) (elt : Expr) (scope : Scope) (cl : List (Str × Addr)) (Q : V → Store → Prop) (nx : Nat → Store → Option (Option V)) (σ1 : Store) : Prop :=
  ∃ xs ys, (∀ σ', Ext σ1 σ' → ∀ i, nx i σ' = some xs[i]?) ∧ xs.length ≤ 2 ^ 20 ∧ CompL G ⟨md.n, md.hd, relabelSc scope.names md.sc⟩ target ifs elt (cellsL cl) σ1 xs ys ∧ Mk σ1 (.lst ys) (.lst ys) Q

theorem comp_core {ys : List V} {Q : V → Store → Prop} {σ2 : Store} {s5 : Shared} {D C : Addr} {vs : Array Value} {n : Nat} {h' : Heap} (hD : σ2 D = none) (hC : σ2 C = none) (hDC : D ≠ C) (fD : s.heap.get? D = none)
    (ho : s5.heap.get? D = some (lstObj vs n)) (hr : RelVs G.P (cst σ2 D C ys) s5.heap ys vs.toList) (sim : Sim G.P (cst σ2 D C ys) s5.heap) (d2 : Dom σ σ2 s.heap) (hs : Heap.SameBut C s5.heap h')
    (hmk : Mk σ2 (.lst ys) (.lst ys) Q) : ∃ r σf, Q r σf ∧ RelV G.P σf h' r (.ref D) ∧ Dom σ σf s.heap ∧ Sim G.P σf h' ∧ (∀ b, b ≠ D → σf b = σ2 b) ∧ (∀ b o, s5.heap.get? b = some o → cst σ2 D C ys b = none → h'.get? b = some o ∧ σf b = none) := by
  have ho' : h'.get? D = some (lstObj vs n) := (hs.2 D hDC).trans ho
  have mono : ∀ (σf : Store), (∀ b, σ2 b = none → b ≠ D → σf b = none) → ∀ b o, s5.heap.get? b = some o → cst σ2 D C ys b = none → h'.get? b = some o ∧ σf b = none := fun σf hf b o e z => by
    obtain ⟨z1, z2, z3⟩ := cst_none z
    exact ⟨(hs.2 b z3).trans e, hf b z1 z2⟩
  rcases hmk with hq | hq
  · have m1 := mono σ2 fun b z _ => z
    refine ⟨_, σ2, hq, ⟨D, vs, n, rfl, hD, ho', hr.mono m1⟩, d2, fun b mo e => ?_, fun _ _ => rfl, m1⟩
    have e1 : cst σ2 D C ys b = some mo := by rw [cst_ext hD hC b (by rw [e]; simp)]; exact e
    obtain ⟨o, h1, h2⟩ := sim b mo e1
    have hbC : b ≠ C := by rintro rfl; rw [hC] at e; cases e
    exact ⟨o, (hs.2 b hbC).trans h1, h2.mono m1⟩
  · have m1 := mono (upd σ2 D (.lst ys)) fun b z hb => (upd_ne _ _ hb).trans z
    refine ⟨_, upd σ2 D (.lst ys), hq D hD, rfl, fun b o e => ?_, fun b mo e => ?_, fun b hb => upd_ne _ _ hb, m1⟩
    · have hbD : b ≠ D := by rintro rfl; rw [fD] at e; cases e
      rw [upd_ne _ _ hbD]
      exact d2 b o e
    · by_cases hbD : b = D
      · subst hbD
        rw [upd_eq] at e; cases e
        exact ⟨_, ho', vs, n, rfl, hr.mono m1⟩
      · rw [upd_ne _ _ hbD] at e
        have e1 : cst σ2 D C ys b = some mo := by rw [cst_ext hD hC b (by rw [e]; simp)]; exact e
        obtain ⟨o, h1, h2⟩ := sim b mo e1
        have hbC : b ≠ C := by rintro rfl; rw [hC] at e; cases e
        exact ⟨o, (hs.2 b hbC).trans h1, h2.mono m1⟩
theorem comp_end {ys : List V} {Q : V → Store → Prop} {σ2 : Store} {s5 : Shared} {D C : Addr} {vs : Array Value} {n tk : Nat} {h' : Heap} (hD : σ2 D = none) (hC : σ2 C = none) (hDC : D ≠ C) (fD : s.heap.get? D = none) (fC : s.heap.get? C = none)
    (ho : s5.heap.get? D = some (lstObj vs n)) (hr : RelVs G.P (cst σ2 D C ys) s5.heap ys vs.toList) (aft : After σ (cst σ2 D C ys) s s5) (sim : Sim G.P (cst σ2 D C ys) s5.heap) (d2 : Dom σ σ2 s.heap) (hs : Heap.SameBut C s5.heap h')
    (hmk : Mk σ2 (.lst ys) (.lst ys) Q) : EQ G σ Q s (.ref D) { s5 with heap := h', toks := tk } := by
  obtain ⟨r, σf, hq, hrel, hdom, hsim, _, _⟩ := comp_core (s := s) (σ := σ) hD hC hDC fD ho hr sim d2 hs hmk
  obtain ⟨⟨hh, tk', rfl⟩, k, d, l⟩ := aft
  have neC : ∀ b o, s.heap.get? b = some o → b ≠ C := fun b o e q => by rw [q, fC] at e; cases e
  refine ⟨r, σf, hq, hrel, ⟨⟨_, _, rfl⟩, fun b o e => ⟨fun z => (hs.2 b (neC b o e)).trans ((k b o e).1 z), fun z => ?_⟩, hdom, fun b o e => ?_⟩, hsim⟩
  · obtain ⟨o', e', q⟩ := (k b o e).2 z
    exact ⟨o', (hs.2 b (neC b o e)).trans e', q⟩
  · obtain ⟨o', e'⟩ := l b o e
    exact ⟨o', (hs.2 b (neC b o e)).trans e'⟩

theorem scope_facts {scope : Scope} {sc : List (Str × NameKind)} {target : Expr} {cl : List (Str × Addr)} (h : scopeOk scope sc target cl = true) : (∀ x ∈ scope.names, x.2 ≠ .cell) ∧ (∀ x ∈ scope.names, x.2 = .local → scope.names.lookup x.1 = some .local) ∧ scope.kind = .function ∧
    targetOk (relabelSc scope.names sc) target = true ∧ ∀ x ∈ cl, (relabelSc scope.names sc).lookup x.1 = some .cell ∨ (relabelSc scope.names sc).lookup x.1 = some .free := by
  simp only [scopeOk, Bool.and_eq_true, List.all_eq_true] at h
  obtain ⟨⟨⟨h1, h2⟩, h3⟩, h4⟩ := h
  refine ⟨fun x hx => ?_, fun x hx hl => ?_, beq_iff_eq.mp h2, h3, fun x hx => ?_⟩
  · have := (h1 x hx).1
    simpa using this
  · have := (h1 x hx).2
    rw [hl] at this
    simpa using this
  · have := h4 x hx
    rw [Bool.or_eq_true] at this
    rcases this with q | q
    · exact .inl (beq_iff_eq.mp q)
    · exact .inr (beq_iff_eq.mp q)

theorem ev_comp {elt target iter : Expr} {ifs : List Expr} {scope : Scope} {pos : Pos} {cl : List (Str × Addr)} {Q : V → Store → Prop} (hd : md.hd = none) (hcl : clOf scope.names loc [] = some cl) (hok : scopeOk scope md.sc target cl = true)
    (h : IterW G md target iter loc σ (CompC G md target ifs elt scope cl Q) X) (hs : ∀ env x, foldedSetIterable iter env x = pure x := by intro _ _; rfl) : EvW G md (.ListComp elt [⟨target, iter, ifs, 0⟩] scope pos) loc σ Q X := fun A env m s S => by
  obtain ⟨c1, c2, c3, c4, c5⟩ := scope_facts hok
  have hh : A.handled = none := S.frm.hand.trans hd
  rw [eval_ListComp]
  refine wpAny_comprehension_free (use := none) rfl (hs env) (closureFor_of S.loc hcl) c3 c2 (wpAny_mono (h A env m s hh S) (fun xv s1 q => wpAny_mono q (fun it s2 q2 => ?_) fun _ _ z => z) fun _ _ z => z)
  obtain ⟨I, wr, nx, Sw, σ2, rfl, W, st, aft, sim, nw, xs, ys, hnx, hxs, hC, hmk⟩ := q2
  refine comp_block (RR := fun acc C => compPost G.M A (EX G σ X s) none (EQ G σ Q s) acc C) W hd c1 c3 hcl c5 c4 (S.after aft sim) aft st S.frm.stays nw hnx hxs hC ?_
  intro D C s5 vs n hD hC hDC fD fC gD gC ho hr aft5 sim5 hns
  obtain ⟨m5, hns⟩ := hns
  exact ⟨m5, hns, fun h' hs => comp_end (tk := s5.toks) hD hC hDC fD fC ho hr aft5 sim5 aft.dom hs hmk⟩

theorem swaps_md {value : Expr} {t : Option Expr} {l : Nat} (F : Frm G md A env σ s.heap) : swapsWith value t l env = swapsWith value t l (env0 md.sc) := by
  have h1 : env.blockKind = (env0 md.sc).blockKind := by unfold Env.blockKind; rw [F.kind]; rfl
  have h2 : env.kindOf = (env0 md.sc).kindOf := by
    funext x
    show env.scope.names.lookup x = md.sc.lookup x
    rw [F.names]
  have h3 : env.scope.kind = (env0 md.sc).scope.kind := F.kind
  unfold swapsWith
  rw [h1, h2, h3]

theorem ex_assign_comp {elt target iter : Expr} {ifs : List Expr} {scope : Scope} {pos spos py : Pos} {y : Str} {cl : List (Str × Addr)} {Q : Flw → Loc → Store → Prop} (hd : md.hd = none) (hy : md.sc.lookup y = some .local)
    (hsw : swapsWith (.ListComp elt [⟨target, iter, ifs, 0⟩] scope pos) (some (.Name y py)) spos.line (env0 md.sc) = pure true) (hcl : clOf scope.names loc [] = some cl) (hok : scopeOk scope md.sc target cl = true)
    (h : IterW G md target iter loc σ (CompC G md target ifs elt scope cl (fun v σ' => Q .next ((y, .val v) :: loc) σ')) X) (hs : ∀ env x, foldedSetIterable iter env x = pure x := by intro _ _; rfl) : Ex1 G md (.Assign [.Name y py] (.ListComp elt [⟨target, iter, ifs, 0⟩] scope pos) spos) loc σ Q X := fun A env m s S => by
  obtain ⟨c1, c2, c3, c4, c5⟩ := scope_facts hok
  have hh : A.handled = none := S.frm.hand.trans hd
  rw [exec_Assign_Name_used _ _ _ _ ((swaps_md S.frm).trans hsw)]
  refine wpAny_bind (wpAny_standAt (wpAny_bind ?_))
  show wpAny _ A (do let _ ← comprehension (.ListComp elt [⟨target, iter, ifs, 0⟩] scope pos) scope env _ (newList []) false (eval iter env) (some (assign (.Name y py) env))) _ _ s
  refine wpAny_bind (wpAny_mono (wpAny_comprehension_free (use := some (assign (.Name y py) env)) (Q := fun _ s' => SQ G env σ Q s .next s') (E := SX G env σ X s) rfl (hs env) (closureFor_of S.loc hcl) c3 c2 (wpAny_mono (h A env m s hh S) (fun xv s1 q => wpAny_mono q (fun it s2 q2 => ?_) fun _ _ z => z.sx S) fun _ _ z => z.sx S))
    (fun _ s' hq => wpAny_pure (wpAny_pure hq)) fun _ _ e => e)
  obtain ⟨I, wr, nx, Sw, σ2, rfl, W, st, aft, sim, nw, xs, ys, hnx, hxs, hC, hmk⟩ := q2
  refine comp_block (RR := fun acc C => compPost G.M A (SX G env σ X s) (some (assign (.Name y py) env)) (fun _ s' => SQ G env σ Q s .next s') acc C) W hd c1 c3 hcl c5 c4 (S.after aft sim) aft st S.frm.stays nw hnx hxs hC ?_
  intro D C s5 vs n hD hC hDC fD fC gD gC ho hr aft5 sim5 hns
  obtain ⟨m5, hns⟩ := hns
  show wpAny _ A (assign (.Name y py) env (.ref D)) _ _ _
  have S5 := S.after aft5 sim5
  have hrD : RelV G.P (cst σ2 D C ys) s5.heap (.ref D) (.ref D) := rfl
  have hLC : env.locals ≠ C := by rintro q; obtain ⟨o, _, _, e, _⟩ := S.ns; rw [q, fC] at e; cases e
  have hLD : env.locals ≠ D := by rintro q; obtain ⟨o, _, _, e, _⟩ := S.ns; rw [q, fD] at e; cases e
  have hLσ : σ2 env.locals = some .mark := by
    obtain ⟨o, _, _, e, _⟩ := S.ns
    exact (aft.dom _ o e).2.1 S.frm.off
  refine wpAny_assign_Name (bind_local S5 hy hrD fun s6 S6 a6 => ?_)
  obtain ⟨oC, esC, epC, hoC, rC⟩ := hns
  have hCk : s6.heap.Ns C m5 ∧ True := by
    obtain ⟨o', e', q⟩ := (a6.keep C oC hoC).2 cst_C (Ne.symm hLC)
    exact ⟨ns_slots ⟨oC, esC, epC, hoC, rC⟩ fun o e => by rw [hoC] at e; cases e; exact ⟨o', e', q⟩, trivial⟩
  refine ⟨m5, hCk.1, fun h' hsb => ?_⟩
  obtain ⟨oD, hoD, vs6, n6, rfl, hr6⟩ := S6.sim D _ (cst_D hDC)
  obtain ⟨r, σf, hq, hrel, hdom, hsim, hσf, mono⟩ := comp_core (s := s) (σ := σ) (s5 := s6) hD hC hDC fD hoD hr6 S6.sim aft.dom hsb hmk
  have aL := (aft5.l env.locals).trans a6
  obtain ⟨⟨hh6, tk6, rfl⟩, k, d, l⟩ := aL
  have neC : ∀ b o, s.heap.get? b = some o → b ≠ C := fun b o e q => by rw [q, fC] at e; cases e
  have hn' : h'.Ns env.locals _ := ns_slots S6.ns fun o e => ⟨o, (hsb.2 _ hLC).trans e, .refl o⟩
  refine ⟨.next, _, σf, _, hq, rfl, ⟨⟨_, _, rfl⟩, fun b o e => ⟨fun z => (hsb.2 b (neC b o e)).trans ((k b o e).1 z), fun z n => ?_⟩, hdom, fun b o e => ?_⟩, hn', hsim, fun z lv e => ?_⟩
  · obtain ⟨o', e', q⟩ := (k b o e).2 z n
    exact ⟨o', (hsb.2 b (neC b o e)).trans e', q⟩
  · obtain ⟨o', e'⟩ := l b o e
    exact ⟨o', (hsb.2 b (neC b o e)).trans e'⟩
  · rw [List.lookup_cons] at e
    by_cases hz : z = y
    · subst hz
      rw [beq_self_eq_true] at e
      cases e
      exact ⟨by show env.scope.names.lookup z = _; rw [S.frm.names]; exact hy, .ref D, by simp, hrel⟩
    · have hzb : (z == y) = false := by simpa using hz
      rw [hzb] at e
      have q := S6.loc z lv (by rw [List.lookup_cons, hzb]; exact e)
      cases lv with
      | val u => obtain ⟨kk, w, hw, rr⟩ := q; exact ⟨kk, w, hw, rr.mono mono⟩
      | cell c =>
        obtain ⟨kk, hc, v, hv⟩ := q
        have hcD : c ≠ D := by rintro rfl; rw [cst_D hDC] at hv; cases hv
        have hcC : c ≠ C := by rintro rfl; rw [cst_C] at hv; cases hv
        refine ⟨kk, hc, v, ?_⟩
        rw [hσf c hcD]
        unfold cst at hv
        rw [upd_ne _ _ hcC, upd_ne _ _ hcD] at hv
        exact hv
end
end Mine
end

section
namespace Mine

section
variable {G : Gd} {md : Md} {A : Around} {env : Env} {m : Str → Option Value} {loc : Loc} {σ σ' : Store} {s s' : Shared} {X : Exn → Prop}

theorem RelVs.set {P : Params} {h : Heap} : ∀ (i : Nat) {l : List V} {vs : List Value} {x : V} {v : Value}, RelVs P σ h l vs → RelV P σ h x v → RelVs P σ h (l.set i x) (vs.set i v)
  | _, [], _, _, _, r, _ => by cases r; exact .nil
  | 0, y :: l, _, x, v, r, rv => by obtain ⟨w, ws, rfl, r1, r2⟩ := r; exact .cons rv r2
  | i + 1, y :: l, _, x, v, r, rv => by obtain ⟨w, ws, rfl, r1, r2⟩ := r; exact .cons r1 (RelVs.set i r2 rv)

theorem set_item {a : Addr} {l : List V} {k : Int} {t : Tok} {x : V} {v : Value} {Qu : Unit → Shared → Prop} {E : Value → Shared → Prop} (sim : Sim G.P σ s.heap) (ha : σ a = some (.lst l)) (h0 : 0 ≤ k) (hk : k < l.length) (hz : l.length ≤ 2 ^ 20) (r : RelV G.P σ s.heap x v)
    (h : ∀ s', After σ (upd σ a (.lst (l.set k.toNat x))) s s' → Sim G.P (upd σ a (.lst (l.set k.toNat x))) s'.heap → Qu () s') : wpAny G.M A (setItem (.ref a) (.int k t) v) Qu E s := by
  obtain ⟨o, ho, vs, n, rfl, hl⟩ := sim a _ ha
  have hlen := hl.length
  rw [Array.length_toList] at hlen
  have hL : s.heap.IsList a vs := ⟨_, ho, rfl, n, rfl⟩
  unfold setItem
  try with_reducible refine wpAny_holding ?_
  first | refine wpAny_bind (wpAny_pure ?_) | skip
  refine wpAny_bind (wpAny_sequenceKey hL.typeIs (by decide) ?_)
  refine wpAny_bind (wpAny_callSpecial?_slot (name := Str.ofString "__setitem__") hL.typeIs slot_list_setitem
    (wpAny_call_entry slot_list_setitem hL.typeIs entry_list_setitem ?_ (args_list_setitem _ _ _)))
  show wpAny _ _ (Builtin.List.listSubscript? (.int k t) >>= _) _ _ s
  have hfit : k < 2 ^ 63 := by lia
  refine wpAny_bind (wpAny_listSubscript_int (fitsIndex_of h0 hfit) ?_)
  obtain ⟨j, rfl⟩ := Int.eq_ofNat_of_zero_le h0
  have hj : j < vs.size := by lia
  have hx' : vs[j]? = some vs[j] := Array.getElem?_eq_getElem hj
  show wpAny _ _ ((seqItemAt a j >>= fun r => pure (r.map (j, ·))) >>= _) _ _ s
  refine wpAny_bind (wpAny_bind (wpAny_seqItemAt ho rfl (wpAny_pure ?_)))
  rw [hx']
  show wpAny _ _ (setSeqItemAt a j v >>= _) _ _ s
  have hobj : Obj.mapSeq (·.setIfInBounds j v) (lstObj vs n) = lstObj (vs.setIfInBounds j v) (if (vs.setIfInBounds j v).size == vs.size then n else n + 1) := rfl
  have hnew : (s.heap.update a (Obj.mapSeq (·.setIfInBounds j v))).get? a = some (lstObj (vs.setIfInBounds j v) (if (vs.setIfInBounds j v).size == vs.size then n else n + 1)) := by
    rw [Heap.get?_update_self _ ho (by rw [hobj]; rfl), hobj]
  obtain ⟨k1, k2⟩ := put_at (tk := s.toks) sim ha (by simp) (by intro v e; cases e) (Heap.SameBut.update ..) hnew (mo' := .lst (l.set j x)) ⟨_, _, rfl, by rw [Array.toList_setIfInBounds]; exact hl.set j r⟩
  refine wpAny_bind (wpAny_setSeqItemAt ho rfl ?_)
  exact wpAny_pure ⟨.none, rfl, wpAny_pure (h _ k1 k2)⟩

inductive StiR (loc : Loc) (Q : Flw → Loc → Store → Prop) (u x k : V) (σ3 : Store) : Prop | mk (a : Addr) (l : List V) (j : Int) (h1 : x = .ref a) (h2 : σ3 a = some (.lst l)) (h3 : k = .int j) (h4 : 0 ≤ j) (h5 : j < l.length) (h6 : l.length ≤ 2 ^ 20) (q : Q .next loc (upd σ3 a (.lst (l.set j.toNat u))))
abbrev StiQ2 (G : Gd) (md : Md) (i : Expr) (loc : Loc) (Q : Flw → Loc → Store → Prop) (X : Exn → Prop) (u : V) : V → Store → Prop := fun x σ2 => EvW G md i loc σ2 (StiR loc Q u x) X
abbrev StiQ (G : Gd) (md : Md) (o i : Expr) (loc : Loc) (Q : Flw → Loc → Store → Prop) (X : Exn → Prop) : V → Store → Prop := fun u σ1 => EvW G md o loc σ1 (StiQ2 G md i loc Q X u) X
theorem ex_setitem {o i e : Expr} {tp pos : Pos} {Q : Flw → Loc → Store → Prop}
    (h : EvW G md e loc σ (StiQ G md o i loc Q X) X) (hn : notComp e = true := by rfl) :
    Ex1 G md (.Assign [.Subscript o i tp] e pos) loc σ Q X := fun A env m s S => by
  refine wpAny_Assign_Subscript (wpAny_mono (h A env m s S) (fun w s1 q => ?_) fun _ _ z => z.sx S) (swaps_not hn ..)
  obtain ⟨u, σ1, h1, h2, h3, S1⟩ := S.ev q
  refine wpAny_mono (two (K := fun ov iv s3 => wpAny G.M A (setItem ov iv w) (fun _ => SQ G env σ Q s .next) (SX G env σ X s) s3) S1 h1 fun x k ov iv σ3 s3 q3 a3 S3 rx rk => ?_) (fun ov s2 q => wpAny_mono q (fun _ _ z => z) fun _ _ z => (z.sx S1).then (h3.l _)) fun _ _ z => (z.sx S1).then (h3.l _)
  obtain ⟨a, l, j, rfl, k1, rfl, k2, k3, k4, k5⟩ := q3
  cases rx
  obtain ⟨t, rfl⟩ := rk
  refine set_item S3.sim k1 k2 k3 k4 (h2.step a3.keep a3.dom) fun s4 a4 sim4 => ?_
  have S4 := S3.after a4 sim4
  exact ⟨.next, loc, _, m, k5, rfl, ((h3.trans a3).trans a4).l _, S4.ns, S4.sim, S4.loc⟩
end
end Mine
end

section
namespace Mine

/-- an expression that is an int as it stands -/
inductive IntLit : Expr → Int → Prop where
  | pos (i : Int) (k : Nat) (p : Pos) : IntLit (.Constant (.int i) k p) i
  | neg (i : Int) (k : Nat) (p q : Pos) : IntLit (.UnaryOp .USub (.Constant (.int i) k p) q) (-i)
noncomputable def IntLits : List Expr → List Int → Prop
  | [], is => is = []
  | e :: es, is => ∃ i r, is = i :: r ∧ IntLit e i ∧ IntLits es r

theorem IntLit.eval {G : Gd} {A : Around} {env : Env} {e : Expr} {i : Int} {s : Shared} {Q : Value → Shared → Prop} {E : Value → Shared → Prop} (h : IntLit e i) (q : ∀ u tk, Q (.int i u) { s with toks := tk }) : wpAny G.M A (eval e env) Q E s := by
  cases h with
  | pos i k p => exact wpAny_Constant_int (q _ _)
  | neg i k p r => exact UnaryOp_ (wpAny_Constant_int (P.neg_int (q _ _)))

inductive KeyS : Option Expr → Str → Prop | mk (k : Str) (n : Nat) (p : Pos) : KeyS (some (.Constant (.str k) n p)) k
inductive KeysS : List (Option Expr) → List Str → Prop
  | nil : KeysS [] []
  | cons {o : Option Expr} {k : Str} {r : List (Option Expr)} {ks : List Str} (h : KeyS o k) (t : KeysS r ks) : KeysS (o :: r) (k :: ks)

/-- a display's pairs -/
noncomputable def DPS : List (Value × Value) → List Str → List Int → Prop
  | [], ks, is => ks = [] ∧ is = []
  | (a, b) :: r, ks, is => ∃ k ks' i is' t u, ks = k :: ks' ∧ is = i :: is' ∧ a = .str k t ∧ b = .int i u ∧ DPS r ks' is'

theorem DPS.all : ∀ {vs : List (Value × Value)} {ks : List Str} {is : List Int}, DPS vs ks is → allStrKeys vs = true ∧ (strPairs vs).map (·.1) = ks
  | [], _, _, h => by obtain ⟨rfl, rfl⟩ := h; exact ⟨rfl, rfl⟩
  | (a, b) :: r, _, _, h => by
    obtain ⟨k, ks', i, is', t, u, rfl, rfl, rfl, rfl, h⟩ := h
    obtain ⟨h1, h2⟩ := DPS.all h
    exact ⟨h1, by simp only [strPairs, List.map_cons]; rw [h2]⟩

theorem DPS.made {prog : Program} {w : World} {P : Params} (hP : w.params = P) {σ : Store} {h : Heap} {vs : List (Value × Value)} : ∀ {ks : List Str} {is : List Int} {es : List DictEntry}, DPS vs ks is → Pairs (PySem.strKind prog w) es (strPairs vs) → (∀ e ∈ es, ∃ k, (PySem.strKind prog w).is k e.key = true ∧ e.hash = (PySem.strKind prog w).hash k) →
    (∀ k ∈ ks, Fit k) → KS P ks es ∧ RelVs P σ h (is.map V.int) (es.map (·.val)) := by
  induction vs with
  | nil => intro ks is es hd hp _ _; obtain ⟨rfl, rfl⟩ := hd; cases hp; exact ⟨rfl, rfl⟩
  | cons x r ih =>
    obtain ⟨a, b⟩ := x
    intro ks is es hd hp hk hf
    obtain ⟨k, ks', i, is', t, u, rfl, rfl, rfl, rfl, hd⟩ := hd
    cases hp with
    | @cons e kv es kvs h1 h2 h3 =>
      obtain ⟨k', hk1, hk2⟩ := hk e (List.mem_cons_self ..)
      obtain rfl : k = k' := (PySem.strKind prog w).inj _ _ _ h1 hk1
      obtain ⟨t', ht⟩ := Value.isStrOf_shape h1
      obtain ⟨r1, r2⟩ := ih hd h3 (fun e he => hk e (List.mem_cons_of_mem _ he)) fun k hk => hf k (List.mem_cons_of_mem _ hk)
      exact ⟨⟨e, es, t', rfl, ht, by rw [hk2, ← hP]; rfl, hf _ (List.mem_cons_self ..), r1⟩, ⟨_, _, rfl, ⟨u, h2⟩, r2⟩⟩
theorem dispS {G : Gd} {A : Around} {env : Env} (pos : Pos) {keys : List (Option Expr)} {ks : List Str} (hk : KeysS keys ks) : ∀ {values : List Expr} {is : List Int} {s : Shared}, IntLits values is → keys.length = values.length →
    wpAny G.M A (evalPairs (pairTrees keys values env pos)) (fun vs s1 => DPS vs ks is ∧ ∃ tk, s1 = { s with toks := tk }) (fun _ _ => False) s := by
  induction hk with
  | nil =>
    intro values is s hv hl
    cases values with
    | nil => cases hv; exact pairTrees_nil_walk ⟨⟨rfl, rfl⟩, _, rfl⟩
    | cons => cases hl
  | cons hk _ ih =>
    intro values is s hv hl
    cases values with
    | nil => cases hl
    | cons e values =>
      obtain ⟨i, is', rfl, h1, h2⟩ := hv
      cases hk
      refine pairTrees_cons_walk (wpAny_Constant_str (h1.eval fun u tk => wpAny_mono (ih h2 (Nat.succ.inj hl)) (fun vs s2 q => ?_) fun _ _ x => x))
      obtain ⟨hd, tk', rfl⟩ := q
      exact ⟨⟨_, _, _, _, _, _, rfl, rfl, rfl, rfl, hd⟩, _, rfl⟩
theorem keysS_all {keys : List (Option Expr)} {ks : List Str} (hk : KeysS keys ks) : keys.all (·.isSome) = true := by
  induction hk with
  | nil => rfl
  | cons h _ ih => cases h; exact ih

/-- a dict display of ints -/
theorem ev_dictS {G : Gd} {md : Md} {loc : Loc} {σ : Store} {X : Exn → Prop} {keys : List (Option Expr)} {values : List Expr} {pos : Pos} {ks : List Str} {is : List Int} {Q : V → Store → Prop} (hk : KeysS keys ks) (hn : ks.Nodup) (hf : ∀ k ∈ ks, Fit k)
    (hl : keys.length = values.length) (h0 : keys ≠ []) (hlen : keys.length ≤ 15) (hv : IntLits values is) (h : Q (.sdc ks (is.map V.int)) σ) : EvW G md (.Dict keys values pos) loc σ Q X := fun A env m s S => by
  have hfr := free_size s.heap
  have hk0 := push_keeps s.heap { cls := .type "dict", data := .dict #[] }
  refine wpAny_Dict_walk (knd := PySem.strKind G.prog G.w) (keysS_all hk) hl h0 hlen (wpAny_mono (dispS pos hk hv hl) (fun vs s1 q => ?_) fun _ _ x => x.elim)
  obtain ⟨hd, tk, rfl⟩ := q
  obtain ⟨d1, d2⟩ := hd.all
  have hn0 : (s.heap.push { cls := .type "dict", data := .dict #[] }).get? s.heap.objs.size = some { cls := .type "dict", data := .dict #[] } := Heap.get?_push_size _ rfl
  refine display_done_str d1 (by rw [d2]; exact hn) ⟨_, #[], _, hn0, ⟨rfl, rfl, rfl⟩, rfl, by intro e he; simp at he, .nil, by simp⟩ fun h' hm hs => ?_
  obtain ⟨o, es, ep, ho, ⟨o1, o2, o3⟩, hdat, hkeys, hp, _⟩ := hm
  obtain ⟨c, dd, dt, sl⟩ := o
  simp only at o1 o2 o3 hdat
  subst o1 o2 o3 hdat
  obtain ⟨r1, r2⟩ := hd.made (P := G.P) (σ := σ) (h := h') rfl hp (fun e he => hkeys e (Array.mem_toList_iff.mp he)) hf
  have ne : ∀ b o, s.heap.get? b = some o → b ≠ s.heap.objs.size := fun b o e q => by rw [q, hfr] at e; cases e
  have hk1 : ∀ b o, s.heap.get? b = some o → h'.get? b = some o := fun b o e => (hs.2 b (ne b o e)).trans (hk0 b o e)
  obtain ⟨a, sim⟩ := grow (tk := tk + vs.length) S.sim hk1
  exact ⟨_, σ, h, ⟨_, es, ep, rfl, ⟨fresh_none S.sim hfr, beq_eq_false_iff_ne.mpr (Nat.ne_of_gt (PyProof.Rows.modules_low (S.frm.ok.top.nolimit.keeps S.frm.stays)))⟩, ho, r1, r2⟩, a, sim⟩

inductive KeyI : Option Expr → Int → Prop | mk (k : Int) (n : Nat) (p : Pos) : KeyI (some (.Constant (.int k) n p)) k
inductive KeysI : List (Option Expr) → List Int → Prop
  | nil : KeysI [] []
  | cons {o : Option Expr} {k : Int} {r : List (Option Expr)} {ks : List Int} (h : KeyI o k) (t : KeysI r ks) : KeysI (o :: r) (k :: ks)

/-- a display's pairs -/
noncomputable def DPI : List (Value × Value) → List Int → List Int → Prop
  | [], ks, is => ks = [] ∧ is = []
  | (a, b) :: r, ks, is => ∃ k ks' i is' t u, ks = k :: ks' ∧ is = i :: is' ∧ a = .int k t ∧ b = .int i u ∧ DPI r ks' is'

theorem ev_dict0 {G : Gd} {md : Md} {loc : Loc} {σ : Store} {X : Exn → Prop} {pos : Pos} {Q : V → Store → Prop} (h : Q (.sdc [] []) σ) : EvW G md (.Dict [] [] pos) loc σ Q X := fun A env m s S => by
  have hfr := free_size s.heap
  obtain ⟨a, sim⟩ := grow (tk := s.toks) S.sim (push_keeps s.heap { cls := .type "dict", data := .dict #[] })
  exact wpAny_Dict_empty ⟨_, σ, h, ⟨_, #[], _, rfl, ⟨fresh_none S.sim hfr, beq_eq_false_iff_ne.mpr (Nat.ne_of_gt (PyProof.Rows.modules_low (S.frm.ok.top.nolimit.keeps S.frm.stays)))⟩, Heap.get?_push_size _ rfl, rfl, rfl⟩, a, sim⟩
end Mine
end

section
namespace Mine

/-- the store with a call's own cells -/
noncomputable def stC (σ : Store) (L : Addr) (cs : List (Str × Addr)) (bs : List (Str × V)) : Store :=
  cs.foldr (fun x τ => upd τ x.2 (.cell ((bs.lookup x.1).getD (.bi "")))) (upd σ L .mark)
noncomputable def erasC (σ : Store) (L : Addr) (cs : List (Str × Addr)) : Store := fun b => if b = L ∨ b ∈ cs.map (·.2) then none else σ b

theorem stC_out {σ : Store} {L : Addr} {bs : List (Str × V)} {b : Addr} : ∀ {cs : List (Str × Addr)}, b ∉ cs.map (·.2) → stC σ L cs bs b = upd σ L .mark b
  | [], _ => rfl
  | x :: cs, h => by
    simp only [List.map_cons, List.mem_cons, not_or] at h
    show upd (stC σ L cs bs) x.2 _ b = _
    rw [upd_ne _ _ h.1, stC_out h.2]
theorem stC_in {σ : Store} {L : Addr} {bs : List (Str × V)} {n : Str} {c : Addr} : ∀ {cs : List (Str × Addr)}, cs.Pairwise (fun x y => x.2 ≠ y.2) → (n, c) ∈ cs → stC σ L cs bs c = some (.cell ((bs.lookup n).getD (.bi "")))
  | x :: cs, hp, h => by
    obtain ⟨h1, h2⟩ := List.pairwise_cons.mp hp
    show upd (stC σ L cs bs) x.2 _ c = _
    rcases List.mem_cons.mp h with e | h
    · rw [← e, upd_eq]
    · rw [upd_ne _ _ (Ne.symm (h1 _ h)), stC_in h2 h]

theorem bindL_get {kf : Str → Option NameKind} {x : Str} (hx : kf x = some .local) : ∀ {bs : List (Str × Value)} {m : Str → Option Value}, bindL kf bs m x = (bs.reverse.lookup x).or (m x)
  | [], m => rfl
  | (n, v) :: r, m => by
    unfold bindL
    rw [bindL_get hx, List.reverse_cons, List.lookup_append, List.lookup_cons]
    by_cases hn : x = n
    · subst hn
      rw [if_pos hx]
      cases r.reverse.lookup x <;> simp
    · have : (x == n) = false := by simpa using hn
      rw [this]
      split <;> cases r.reverse.lookup x <;> simp [hn]
theorem bindC_get {kf : Str → Option NameKind} {x : Str} (hx : kf x ≠ some .local) : ∀ {bs : List (Str × Value)} {m : Str → Option Value}, bindC kf bs m x = (bs.reverse.lookup x).or (m x)
  | [], m => rfl
  | (n, v) :: r, m => by
    unfold bindC
    rw [bindC_get hx, List.reverse_cons, List.lookup_append, List.lookup_cons]
    by_cases hn : x = n
    · subst hn
      rw [if_neg hx]
      cases r.reverse.lookup x <;> simp
    · have : (x == n) = false := by simpa using hn
      rw [this]
      split <;> cases r.reverse.lookup x <;> simp [hn]

theorem zip_val {x : Str} : ∀ {ps : List Str} {args : List V}, (ps.zip (args.map LV.val)).lookup x = ((ps.zip args).lookup x).map .val
  | [], _ => by simp
  | _ :: _, [] => by simp
  | p :: ps, a :: args => by
    simp only [List.map_cons, List.zip_cons_cons, List.lookup_cons]
    cases x == p
    · exact zip_val (ps := ps) (args := args)
    · rfl

theorem lookup_none_rev {ps : List Str} {vals : List Value} {x : Str} (h : x ∉ ps) : (ps.zip vals).reverse.lookup x = none := by
  rw [List.lookup_eq_none_iff]
  intro q hq
  have := (List.of_mem_zip (List.mem_reverse.mp hq)).1
  refine bne_iff_ne.mpr ?_
  rintro rfl
  exact h this

theorem nodup_lookup : ∀ {cs : List (Str × Addr)}, (cs.map (·.1)).Nodup → ∀ {z : Str} {c : Addr}, (z, c) ∈ cs → cs.lookup z = some c
  | (k, v) :: r, hn, z, c, h => by
    obtain ⟨h1, h2⟩ := List.nodup_cons.mp hn
    rw [List.lookup_cons]
    rcases List.mem_cons.mp h with e | h
    · cases e; rw [beq_self_eq_true]
    · have : (z == k) = false := by
        rw [beq_eq_false_iff_ne]
        intro e
        refine h1 (List.mem_map.mpr ⟨_, h, e⟩)
      rw [this]
      exact nodup_lookup h2 h
theorem cellsL_lookup {x : Str} {c : Addr} : ∀ {cs : List (Str × Addr)}, cs.lookup x = some c → (cellsL cs).lookup x = some (.cell c)
  | (k, v) :: r, h => by
    rw [List.lookup_cons] at h
    show List.lookup x ((k, LV.cell v) :: cellsL r) = _
    rw [List.lookup_cons]
    cases hb : x == k with
    | true => rw [hb] at h; cases h; rfl
    | false => rw [hb] at h; exact cellsL_lookup h

section
variable {G : Gd} {md : Md} {A : Around} {env : Env} {m : Str → Option Value} {loc : Loc} {σ σ' : Store} {s s' : Shared} {X : Exn → Prop}

abbrev FnQC (Q : V → Store → Prop) (L : Addr) (cs : List (Str × Addr)) : Flw → Loc → Store → Prop := fun fl _ σ' => match fl with | .ret v => Q v (erasC σ' L cs) | .next => Q .none (erasC σ' L cs) | _ => False
theorem call_fnK {G : Gd} {n : Nat} {f : Addr} {ps : List Str} {body : List Stmt} {names : List (Str × NameKind)} {o : Obj} {fd : FuncData} {args : List V} {σ : Store} {Q : V → Store → Prop} {X : Exn → Prop} {cs : Addr → List (Str × Addr)}
    (F : FnAt G f ps body names o fd) (hcs : ∀ L, cellsFrom (L + 1) names [] = cs L) (hck : ∀ L, ∀ x ∈ cs L, names.lookup x.1 = some .cell) (hnd : ∀ L, ((cs L).map (·.1)).Nodup)
    (hl : ∀ p ∈ ps, names.lookup p = some .local ∨ (names.lookup p = some .cell ∧ ∀ L, ((cs L).lookup p).isSome = true)) (hn : ps.length = args.length)
    (h : ∀ L, σ L = none → (∀ x ∈ cs L, σ x.2 = none) → ExW G ⟨n, none, names⟩ body (cellsL (cs L) ++ ps.zip (args.map .val)) (stC σ L (cs L) (ps.zip args)) (FnQC Q L (cs L)) X) :
    CallC G (n + 1) (.ref f) args σ Q X := by
  intro md A env m loc s vals hmn hhd S hr
  have hlen := hr.length
  obtain ⟨F1, F2, F3, F4, F5, F6, F7, F8, F9, F10, F11, F12, F13⟩ := F
  have hroom : A.depth < recursionLimit := dep0 S.frm.depth
  have hlim := S.frm.ok.top.nolimit.keeps S.frm.stays
  refine codeAny_call_function hroom (S.frm.stays _ _ F1) F2 F7 F8 F3 (F5.keeps S.frm.stays) ((F12 s vals (by lia) S.frm.stays) _ _ _ _ ?_)
  rw [F11]
  refine wpAny_newFunctionEnv_cells F6 (fun x hx => ?_) fun envC he s₁ x => ?_
  · rw [F4, hcs]
    have := hl _ (List.of_mem_zip hx).1
    rcases this with q | q
    · exact .inl q
    · exact .inr ⟨q.1, q.2 _⟩
  rw [F4, hcs] at he
  obtain ⟨ICx, hcell, hapart, habove⟩ := x
  obtain ⟨⟨h₀, tk₀, rfl⟩, hns, hk, hfr⟩ := ICx
  refine ⟨hlim.keeps hk, codeAny_func ?_⟩
  obtain ⟨L, hLn⟩ : ∃ L, s.heap.objs.size = L := ⟨_, rfl⟩
  rw [hLn] at he
  have hfree : s.heap.get? L = none := hLn ▸ free_size _
  have hLσ := fresh_none S.sim hfree
  have hbase : G.base.get? L = none := by
    cases hq : G.base.get? L with
    | none => rfl
    | some o => have := S.frm.stays _ _ hq; rw [hfree] at this; cases this
  have hab : ∀ z ∈ cs L, L < z.2 := by
    intro z hz
    have := habove z.1 z.2 (by rw [he]; exact hz)
    rw [he] at this
    exact this
  have hcfree : ∀ z ∈ cs L, s.heap.get? z.2 = none := fun z hz => by
    cases hq : s.heap.get? z.2 with
    | none => rfl
    | some o => exact absurd (Heap.lt_size hq) (by rw [hLn]; exact Nat.not_lt.mpr (Nat.le_of_lt (hab z hz)))
  have hapart' : (cs L).Pairwise fun x y => x.2 ≠ y.2 := by rw [he] at hapart; exact hapart
  have hcell' : ∀ n c, (cs L).lookup n = some c → h₀.IsCell c (bindC envC.kindOf (ps.zip vals) (fun _ => none) n) := by
    intro n c hc
    exact hcell n c (by rw [he]; exact hc)
  have hnsL : h₀.Ns L (bindL envC.kindOf (ps.zip vals) fun _ => none) := by
    have := hns
    rw [show envC.locals = L by rw [he]; rfl] at this
    exact this
  have hkf : ∀ x, envC.kindOf x = names.lookup x := fun x => by
    show envC.scope.names.lookup x = _
    rw [he]; show fd.scope.names.lookup x = _; rw [F4]
  have neL : ∀ b o, s.heap.get? b = some o → b ≠ L := fun b o e q => by rw [q, hfree] at e; cases e
  have neC : ∀ b o, s.heap.get? b = some o → b ∉ (cs L).map (·.2) := fun b o e q => by
    obtain ⟨z, hz, rfl⟩ := List.mem_map.mp q
    rw [hcfree z hz] at e; cases e
  have hLc : L ∉ (cs L).map (·.2) := fun q => by
    obtain ⟨z, hz, q⟩ := List.mem_map.mp q
    exact absurd (hab z hz) (by rw [q]; exact Nat.lt_irrefl _)
  have up1 : ∀ b o, s.heap.get? b = some o → stC σ L (cs L) (ps.zip args) b = σ b := fun b o e => (stC_out (neC b o e)).trans (upd_ne σ _ (neL b o e))
  have upL : stC σ L (cs L) (ps.zip args) L = some .mark := (stC_out hLc).trans (upd_eq ..)
  have kR : ∀ b o, s.heap.get? b = some o → σ b = none → h₀.get? b = some o ∧ stC σ L (cs L) (ps.zip args) b = none := fun b o e z => ⟨hk b o e, (up1 b o e).trans z⟩
  have aft1 : After σ (stC σ L (cs L) (ps.zip args)) s { s with heap := h₀, toks := tk₀ } :=
    ⟨⟨_, _, rfl⟩, fun b o e => ⟨fun _ => hk b o e, fun _ => ⟨o, hk b o e, .refl o⟩⟩, fun b o e => by rw [up1 b o e]; exact ⟨id, id, fun v e => ⟨v, e⟩⟩, fun b o e => ⟨o, hk b o e⟩⟩
  have cval : ∀ z c, (z, c) ∈ cs L → ∃ o, h₀.get? c = some o ∧ ConcO G.P (stC σ L (cs L) (ps.zip args)) h₀ (.cell (((ps.zip args).lookup z).getD (.bi ""))) o := fun z c hz => by
    obtain ⟨o, ho, hd⟩ := hcell' z c (nodup_lookup (hnd L) hz)
    refine ⟨o, ho, ?_⟩
    have hnl : envC.kindOf z ≠ some .local := by rw [hkf, hck L _ hz]; decide
    rw [bindC_get hnl] at hd
    cases hq : (ps.zip args).lookup z with
    | some u =>
      obtain ⟨_, u', w, e1, e2, r⟩ := relVs_zip hr hn F13 z (.val u) (by rw [zip_val, hq]; rfl)
      cases e1
      rw [e2] at hd
      exact .inr ⟨w, hd, r.mono kR⟩
    | none =>
      have hz' : z ∉ ps := fun hm => by
        have : ∃ b, (z, b) ∈ ps.zip args := by
          obtain ⟨i, hi, rfl⟩ := List.mem_iff_getElem.mp hm
          exact ⟨args[i]'(by lia), List.mem_iff_getElem.mpr ⟨i, by rw [List.length_zip]; lia, List.getElem_zip ..⟩⟩
        obtain ⟨b, hb⟩ := this
        exact absurd (List.lookup_eq_none_iff.mp hq _ hb) (by simp)
      rw [lookup_none_rev hz'] at hd
      exact .inl ⟨rfl, hd⟩
  have sim1 : Sim G.P (stC σ L (cs L) (ps.zip args)) h₀ := fun a mo e => by
    by_cases ha : a ∈ (cs L).map (·.2)
    · obtain ⟨⟨z, c⟩, hz, rfl⟩ := List.mem_map.mp ha
      rw [stC_in hapart' hz] at e
      cases e
      exact cval z c hz
    rw [stC_out ha] at e
    by_cases hL : a = L
    · subst hL
      rw [upd_eq] at e; cases e
      obtain ⟨o, _, _, e', _⟩ := hnsL
      exact ⟨o, e', trivial⟩
    · rw [upd_ne σ _ hL] at e
      obtain ⟨o, ho, c⟩ := S.sim a mo e
      exact ⟨o, hk a o ho, c.mono kR⟩
  obtain ⟨q1, q2, q3, q4, q5, q6, q7, q8, ⟨fenv, outer, Lf, f1, f2, f3, f4, f5⟩, q9, q10, q11, q12⟩ := S.frm
  have S1 : St G ⟨n, none, names⟩ (A.deeper envC) envC (bindL envC.kindOf (ps.zip vals) fun _ => none) (cellsL (cs L) ++ ps.zip (args.map .val)) (stC σ L (cs L) (ps.zip args)) { s with heap := h₀, toks := tk₀ } := by
    have hfrm : envC.frame = some L := by rw [he]; rfl
    have hloc' : envC.locals = L := by rw [he]; rfl
    refine ⟨⟨q1, by rw [he]; exact F6, by rw [he]; exact F4, by rw [he]; exact F9, by rw [he]; exact F10, ?_, ?_, ?_, ⟨envC, fenv :: outer, L, ?_, hfrm, hfrm, ?_, ?_⟩, fun b o e => hk b o (q9 b o e), fun b o e => ?_, by rw [hloc']; exact upL, by rw [hloc']; exact hbase⟩, by rw [hloc']; exact hnsL, sim1, fun x lv e => ?_⟩
    · show A.handled = none; rw [q6, hhd]
    · exact dep1 hmn q7
    · exact dep2 hmn q8
    · show A.frames.map _ = _; rw [f1]; rfl
    · refine ⟨by rw [he]; show fd.scope.kind ≠ .module; rw [F6]; decide, ?_, Heap.FunFrames.of_keeps (fun b o e _ => ⟨o, hk b o e, rfl⟩) f4⟩
      obtain ⟨o, es, ep, e', hd, _⟩ := hnsL
      exact ⟨L, o, hfrm, hbase, e', fun vs q => by rw [hd] at q; cases q⟩
    · intro b hb
      unfold frs at hb
      rw [List.filterMap_cons, hfrm] at hb
      rcases List.mem_cons.mp hb with rfl | hb
      · exact upL
      · obtain ⟨o, e⟩ := Frames.all f4 b hb
        rw [up1 b o e]; exact f5 b hb
    · rw [up1 b o (q9 b o e)]; exact q10 b o e
    · rw [List.lookup_append] at e
      cases hq : (cellsL (cs L)).lookup x with
      | some lv' =>
        rw [hq] at e
        cases e
        obtain ⟨c, rfl, hc⟩ := lookup_cells hq
        have hm := mem_of_lookup hc
        exact ⟨.inl (by rw [hkf]; exact hck L _ hm), by rw [he]; exact hc, _, stC_in hapart' hm⟩
      | none =>
        rw [hq] at e
        obtain ⟨hx, u, w, rfl, hw, r⟩ := relVs_zip hr hn F13 x lv e
        have hloc : names.lookup x = some .local := by
          rcases hl x hx with q | ⟨_, q⟩
          · exact q
          · obtain ⟨c, hc⟩ := Option.isSome_iff_exists.mp (q L)
            rw [cellsL_lookup hc] at hq; cases hq
        have hk' := (hkf x).trans hloc
        exact ⟨hk', w, by rw [bindL_get hk', hw]; rfl, r.mono kR⟩
  have hbody := h L hLσ (fun z hz => fresh_none S.sim (hcfree z hz)) _ _ _ _ S1
  have hLs : ∃ o, h₀.get? L = some o := let ⟨o, _, _, e, _⟩ := hnsL; ⟨o, e⟩
  have hel : envC.locals = L := by rw [he]; rfl
  refine wpAny_mono hbody (fun fl s' q => ?_) fun e s' q => ?_
  · obtain ⟨fw, loc', σ', m', h1, h2, h3, h4, h5, h6⟩ := q
    obtain ⟨⟨hh, tk, rfl⟩, k', d', l'⟩ := h3
    have fin : ∀ r w, Q r (erasC σ' L (cs L)) → RelV G.P σ' hh r w → EQ G σ Q s w { s with heap := hh, toks := tk } := fun r w hq hrw => by
      have ez : ∀ b, σ' b = none → erasC σ' L (cs L) b = none := fun b z => by
        unfold erasC
        split
        · rfl
        · exact z
      have eo : ∀ b o, s.heap.get? b = some o → erasC σ' L (cs L) b = σ' b := fun b o e => by
        unfold erasC
        rw [if_neg]
        exact fun q => q.elim (neL b o e) (neC b o e)
      refine ⟨r, erasC σ' L (cs L), hq, ?_, ⟨⟨_, _, rfl⟩, fun b o e => ⟨fun z => ?_, fun z => ?_⟩, fun b o e => ?_, aft1.live.trans l'⟩, fun a mo e => ?_⟩
      · exact hrw.mono fun b o e z => ⟨e, ez b z⟩
      · exact (k' b o (hk b o e)).1 ((up1 b o e).trans z)
      · exact (k' b o (hk b o e)).2 ((up1 b o e).trans z) (hel ▸ neL b o e)
      · rw [eo b o e]
        have := d' b o (hk b o e)
        rw [up1 b o e] at this; exact this
      · unfold erasC at e
        split at e
        · cases e
        · obtain ⟨o, ho, c⟩ := h5 a mo e
          exact ⟨o, ho, c.mono fun b o e z => ⟨e, ez b z⟩⟩
    cases fw with
    | next => cases h2; exact fin .none .none h1 rfl
    | brk => exact h1.elim
    | cont => exact h1.elim
    | ret v => obtain ⟨w, rfl, r⟩ := h2; exact fin v w h1 r
  · refine sx_leave S1.frm (by rw [hel]; exact hLs) q fun s'' q' => ?_
    obtain ⟨x, hx, U, ⟨hh, tk, rfl⟩, k', l', _⟩ := q'
    exact ⟨x, hx, U.le fun b o e => ⟨o, hk b o e⟩, ⟨_, _, rfl⟩, fun b o e => ⟨fun z => (k' b o (hk b o e)).1 ((up1 b o e).trans z), fun z => (k' b o (hk b o e)).2 ((up1 b o e).trans z) (hel ▸ neL b o e)⟩, aft1.live.trans l'⟩
end
end Mine
end

section
namespace Mine

section
variable {G : Gd} {md : Md} {A : Around} {env : Env} {m : Str → Option Value} {loc : Loc} {σ σ' : Store} {s s' : Shared} {X : Exn → Prop}

/-- a name of a cell is bound -/
theorem bind_cell {x : Str} {c : Addr} {r : V} {v : Value} {Qu : Unit → Shared → Prop} {E : Value → Shared → Prop} (S : St G md A env m loc σ s) (hx : loc.lookup x = some (.cell c)) (hk : md.sc.lookup x = some .cell) (hr : RelV G.P σ s.heap r v)
    (h : ∀ s', St G md A env m loc (upd σ c (.cell r)) s' → After σ (upd σ c (.cell r)) s s' → Qu () s') : wpAny G.M A (storeName env x v) Qu E s := by
  have hk' : env.kindOf x = some .cell := by show env.scope.names.lookup x = _; rw [S.frm.names]; exact hk
  obtain ⟨_, hl, v0, hv0⟩ := S.loc x _ hx
  obtain ⟨o, ho, cc⟩ := S.sim c _ hv0
  have hic : ∃ w0, s.heap.IsCell c w0 := by
    rcases cc with ⟨_, e⟩ | ⟨w, e, _⟩
    · exact ⟨_, o, ho, e⟩
    · exact ⟨_, o, ho, e⟩
  obtain ⟨w0, hic⟩ := hic
  refine wpAny_storeName_cell S.frm.kind hk' hl hic fun h' hc' hs => ?_
  obtain ⟨o', ho', hd'⟩ := hc'
  obtain ⟨a, sim⟩ := put_at (tk := s.toks) (mo' := .cell r) S.sim hv0 (by nofun) (fun _ _ => ⟨_, rfl⟩) hs ho' (.inr ⟨v, hd', hr⟩)
  exact h _ (S.after a sim) a

inductive LcR (x : Str) (c : Addr) (loc : Loc) (Q : Flw → Loc → Store → Prop) (v : V) (σ1 : Store) : Prop | mk (a b : V) (h : v = .tup [a, b]) (q : Q .next ((x, .val a) :: loc) (upd σ1 c (.cell b)))
/-- two names, the first a local one, the second of a cell -/
theorem ex_assign_lc {x y : Str} {c : Addr} {px py : Pos} {k : Nat} {tp pos : Pos} {value : Expr} {Q : Flw → Loc → Store → Prop} (hd : md.hd = none) (hx : md.sc.lookup x = some .local) (hy : loc.lookup y = some (.cell c)) (hk : md.sc.lookup y = some .cell) (hxy : (y == x) = false)
    (hw : swappedStores [.Tuple [.Name x px, .Name y py] k tp] value (env0 md.sc) = pure none)
    (h : EvW G md value loc σ (LcR x c loc Q) X) (hc : notComp value = true := by rfl) :
    Ex1 G md (.Assign [.Tuple [.Name x px, .Name y py] k tp] value pos) loc σ Q X := fun A env m s S => by
  have hh : A.handled = none := S.frm.hand.trans hd
  have hw' := (swapped_md S.frm).trans hw
  refine Assign_Tuple (wpAny_mono (h A env m s S) (fun v s1 q => ?_) fun _ _ z => z.sx S) (by exact swaps_not hc (some (.Tuple [.Name x px, .Name y py] k tp)) pos.line env) hw'
  obtain ⟨r, σ1, ⟨a, b, rfl, hq⟩, h2, h3, S1⟩ := S.ev q
  obtain ⟨ad, vs, n, rfl, _, ho, hr⟩ := h2
  have hlen := hr.length
  rw [Array.length_toList] at hlen
  obtain ⟨va, rest, e1, ra, hr⟩ := hr
  obtain ⟨vb, rest', rfl, rb, e3⟩ := hr
  cases e3
  refine assign_Tuple_tuple (elts := [.Name x px, .Name y py]) hh ⟨_, ho, rfl, n, rfl⟩ (by rw [hlen]; rfl) (by rfl) fun h' he => ?_
  obtain ⟨g1, g2⟩ := grow (tk := s1.toks) S1.sim (h' := h') fun b o e => he b o (Nat.ne_of_lt (Heap.lt_size e)) e
  rw [e1]
  have S2 := S1.after g1 g2
  show wpAny G.M A (do holding [vb] (assign (.Name x px) env va); assignInOrder [assign (.Name y py) env] [vb]) _ _ _
  refine wpAny_bind (wpAny_holding (wpAny_assign_Name (bind_local S2 hx (ra.step g1.keep g1.dom) fun s3 S3 a3 => ?_)))
  show wpAny G.M A (do holding [] (assign (.Name y py) env vb); assignInOrder [] []) _ _ _
  have hy3 : (((x, LV.val a) :: loc) : Loc).lookup y = some (.cell c) := by rw [List.lookup_cons, hxy]; exact hy
  refine wpAny_bind (wpAny_holding (wpAny_assign_Name (bind_cell S3 hy3 hk ((rb.step g1.keep g1.dom).mono fun b o e z => ⟨(a3.keep b o e).1 z, (a3.dom b o e).1 z⟩) fun s4 S4 a4 => ?_)))
  exact wpAny_pure ⟨.next, _, _, _, hq, rfl, ((h3.trans g1).l _).trans (a3.trans (a4.l _)), S4.ns, S4.sim, S4.loc⟩
end
end Mine
end

section
namespace Mine

noncomputable def enumV (l : List V) : List V := l.mapIdx fun i v => .tup [.int (i : Nat), v]

section
variable {G : Gd} {md : Md} {A : Around} {env : Env} {m : Str → Option Value} {loc : Loc} {σ σ' : Store} {s s' : Shared} {X : Exn → Prop}

theorem wk_enum {elts : List Expr} {k : Nat} {tp : Pos} {e it l : Addr} (hei : e ≠ it) (hle : l ≠ e) (hli : l ≠ it) (items : Array Value) (xs : List V) (hz : items.size = xs.length) :
    Wk G (.Tuple elts k tp) e [e, it] (fun i _ => some (enumV xs)[i]?) (fun i σ h => i ≤ items.size ∧ (∃ old, IsEnum h e it i old) ∧ h.IsListIter it l i ∧ h.IsList l items ∧ RelVs G.P σ h xs items.toList ∧ σ e = none ∧ σ it = none ∧ σ l = none) where
  frame := fun i σ σ' h h' ⟨hi, ⟨old, he⟩, hit, hl, hr, s1, s2, s3⟩ kk => by
    obtain ⟨oi, hoi, ci⟩ := id hit
    obtain ⟨ol, hol, cl⟩ := id hl
    exact ⟨hi, ⟨old, (kk _ _ he s1).1⟩, ⟨oi, (kk _ _ hoi s2).1, ci⟩, ⟨ol, (kk _ _ hol s3).1, cl⟩, hr.mono kk, (kk _ _ he s1).2, (kk _ _ hoi s2).2, (kk _ _ hol s3).2⟩
  item := fun A i σ s v K Q E hh sim ⟨hi, ⟨old, he⟩, hit, hl, hr, s1, s2, s3⟩ hnx hgo hQ => by
    simp only [Option.some.injEq] at hnx
    unfold enumV at hnx
    rw [List.getElem?_mapIdx] at hnx
    obtain ⟨x, hx, rfl⟩ := Option.map_eq_some_iff.mp hnx
    have hlt : i < items.size := by rw [hz]; exact (List.getElem?_eq_some_iff.mp hx).1
    obtain ⟨u, hu, r⟩ := hr.get i hx
    have hfr := free_size s.heap
    refine wpAny_pyNext_enum_item he hit hl (x := u) (by simpa using hu) hei fun h' ho hit' hT hsz hk => hgo _ _ ?_
    refine wpAny_letOwnedTupleGo_enum (s := { s with heap := h', toks := s.toks + 1 }) ho fun h2 he2 hs2 => ?_
    have hk2 : ∀ b o, b ≠ e → b ≠ it → s.heap.get? b = some o → h2.get? b = some o := fun b o b1 b2 y => (hs2.2 b b1).trans (hk b o b1 b2 y)
    obtain ⟨oi, hoi, ci, _⟩ := id hit
    have w : WStep σ [e, it] s.heap h2 := ⟨fun b o hb y => hk2 b o (fun q => hb (by simp [q])) (fun q => hb (by simp [q])) y, fun b o y z d => hk2 b o
      (fun q => by subst q; rw [he] at y; cases y; exact absurd d (not_dat (T := "enumerate") rfl)) (fun q => by subst q; rw [hoi] at y; cases y; exact absurd d (not_dat ci)) y⟩
    have hTe : s.heap.objs.size ≠ e := fun q => by rw [q, he] at hfr; cases hfr
    have hTi : s.heap.objs.size ≠ it := fun q => by rw [q, hoi] at hfr; cases hfr
    refine hQ _ h2 (s.toks + 1) ⟨_, _, 0, rfl, fresh_none sim hfr, (hs2.2 _ hTe).trans hT, ?_⟩ w ⟨hlt, ⟨u, by simpa using he2⟩, hit'.at fun o y => (hs2.2 it hei.symm).trans y, hl.at fun o y => hk2 l o hle hli y, w.rels hr, s1, s2, s3⟩
    exact ⟨_, _, rfl, ⟨_, rfl⟩, u, [], rfl, w.rel r, rfl⟩
  done := fun A i σ s Q E hh sim ⟨hi, ⟨old, he⟩, hit, hl, hr, s1, s2, s3⟩ hnx hQ => by
    simp only [Option.some.injEq] at hnx
    have hge : items.size ≤ i := by
      have := List.getElem?_eq_none_iff.mp hnx
      unfold enumV at this
      rw [List.length_mapIdx] at this
      lia
    obtain ⟨oi, hoi, ci, _⟩ := id hit
    refine wpAny_pyNext_enum_end hh he hit hl (Array.getElem?_eq_none hge) fun h' hx => ?_
    exact hQ h' s.toks ⟨fun b o hb y => hx b o (fun q => hb (by simp [q])) y, fun b o y z d => hx b o (fun q => by subst q; rw [hoi] at y; cases y; exact absurd d (not_dat ci)) y⟩
  off := fun i σ h ⟨hi, ⟨old, he⟩, hit, hl, hr, s1, s2, s3⟩ b hb => by
    rcases List.mem_cons.mp hb with rfl | hb
    · exact s1
    · have := List.mem_singleton.mp hb; subst this; exact s2
  self := fun A i σ s Q E hh ⟨hi, ⟨old, he⟩, _⟩ hq => wpAny_pyIter_enum he hq

inductive EnmR (C : (Nat → Store → Option (Option V)) → Store → Prop) (v : V) (σ1 : Store) : Prop | mk (l : List V) (h : v = .lst l) (q : C (fun i _ => some (enumV l)[i]?) σ1)
inductive EnmS (C : (Nat → Store → Option (Option V)) → Store → Prop) (vs : List V) (σ1 : Store) : Prop | mk (l : List V) (h : vs = [.lst l]) (q : C (fun i _ => some (enumV l)[i]?) σ1)
theorem iter_enum {elts : List Expr} {k : Nat} {tp px pos : Pos} {x : Str} {e : Expr} {C : (Nat → Store → Option (Option V)) → Store → Prop} (hf : EvW G md (.Name x px) loc σ (IsQ (.ty "enumerate") σ) X)
    (h : EvW G md e loc σ (EnmR C) X) (hn : notStar e = true := by rfl) : IterW G md (.Tuple elts k tp) (.Call (.Name x px) [e] [] pos) loc σ C X := fun A env m s hh S => by
  refine Call_ (wpAny_mono (hf A env m s S) (fun v s1 q => ?_) fun _ _ e => e)
  obtain ⟨r, σ1, ⟨rfl, rfl⟩, h2, h3, S1⟩ := S.ev q
  have e1 : v = .type "enumerate" := h2
  subst e1
  have hE : ∀ e s', EX G σ1 X s1 e s' → EX G σ1 X s e s' := fun _ _ z => z.then h3
  have hn' : ([e].all notStar) = true := by simp [hn]
  refine callWith_of (P := fun h => G.base.StaysIn h) (by rw [plainArgs hn']; rfl) (fun h k => keep_type "enumerate" h k) (evalArgs_any hn' ?_)
  have hev : EvsW G md [e] loc σ1 (EnmS C) X := evs_cons (h.mono (fun v σ1 ⟨l, e, c⟩ => evs_nil ⟨l, by rw [e], c⟩) fun _ z => z) hn
  refine wpAny_mono (hev pos A env m s1 S1) (fun vs s2 q => ?_) fun _ _ z => hE _ _ z
  obtain ⟨us, σ2, ⟨l, rfl, hC⟩, k2, k3, k4⟩ := q
  have S2 := S1.after k3 k4
  refine ⟨S2.frm.stays, ?_⟩
  obtain ⟨v, _, rfl, ⟨a, vs, n, rfl, hs, ho, hr⟩, e2⟩ := k2
  cases e2
  have hfr := free_size s2.heap
  have hlen := hr.length
  rw [Array.length_toList] at hlen
  refine call_enumerate_list (l := a) (items := vs) ⟨_, ho, rfl, n, rfl⟩ fun h' he hit hsz hk => ?_
  obtain ⟨g1, g2⟩ := grow (tk := s2.toks) S2.sim hk
  have hL := (size_ne ho)
  have hfr1 : s2.heap.get? (s2.heap.objs.size + 1) = none := by
    cases hq : s2.heap.get? (s2.heap.objs.size + 1) with
    | none => rfl
    | some o => exact absurd (Nat.lt_of_succ_lt (Heap.lt_size hq)) (Nat.lt_irrefl _)
  refine wpAny_pyIter_enum (s := { s2 with heap := h' }) he ⟨s2.heap.objs.size + 1, [s2.heap.objs.size + 1, s2.heap.objs.size], _, _, σ2, rfl, wk_enum (l := a) (Nat.ne_of_gt (Nat.lt_succ_self _)) (Nat.ne_of_lt (Nat.lt_succ_of_lt (Heap.lt_size ho))) hL vs l hlen, ⟨Nat.zero_le _, ⟨_, he⟩, hit, ⟨_, hk _ _ ho, rfl, n, rfl⟩, hr.mono fun b o e z => ⟨hk b o e, z⟩, fresh_none S2.sim hfr1, fresh_none S2.sim hfr, hs⟩, h3.trans (k3.trans g1), g2, fun b hb => ?_, hC⟩
  have back : ∀ b, s2.heap.get? b = none → s.heap.get? b = none := fun b hb => by
    cases hq : s.heap.get? b with
    | none => rfl
    | some o => obtain ⟨o', e'⟩ := (h3.trans k3).live b o hq; rw [hb] at e'; cases e'
  rcases List.mem_cons.mp hb with rfl | hb
  · exact back _ hfr1
  · have := List.mem_singleton.mp hb; subst this; exact back _ hfr
end
end Mine
end

section
open AutoSeq1 (wpAny_loadPart')
namespace Mine
noncomputable def tixF (items : Array Value) (x : Value) (i : Nat) (_ : Option PySem.Fin × Unit) : Sem (ForInStep (Option PySem.Fin × Unit)) :=
  match items[i]? with
            | some y => do
              let __do_lift ← eqBool y x
              if __do_lift = true then do
                  let __do_lift ← retInt ↑i
                  pure (ForInStep.done (some __do_lift, ()))
                else pure (ForInStep.yield (none, ()))
            | x => pure (ForInStep.yield (none, ()))
theorem tix_loop {prog : Program} {w : World} {A : Around} {E : Value → Shared → Prop} (items : Array Value) (x : Value) (e : Value → Bool) (he : ∀ y, y ∈ items → MeetsSeq.EqGives y x (e y)) (j : Nat) (hj : j < items.size)
    (hit : e items[j] = true) (hno : ∀ m (hm : m < items.size), m < j → e items[m] = false) (s : Shared) (K : Option PySem.Fin × Unit → Shared → Prop) (h : K (some (PySem.Fin.done (.ret (.int j s.toks))), ()) { s with toks := s.toks + 1 }) (k : Nat) : ∀ (i : Nat), i + k = items.size → i ≤ j →
    wpAny (model prog w) A (forIn (List.range' i k) (none, ()) (tixF items x)) K E s := by
  induction k with
  | zero => intro i h1 h2; lia
  | succ k ih =>
    intro i h1 h2
    rw [List.range'_succ, List.forIn_cons]
    have hs : i < items.size := by lia
    unfold tixF
    rw [Array.getElem?_eq_getElem hs]
    refine wpAny_bind (wpAny_bind (he _ (Array.getElem_mem hs) prog w _ _ _ _ ?_))
    by_cases hij : i = j
    · subst hij
      rw [hit]
      wp_walk
      exact h
    · rw [hno i hs (by lia)]
      exact wpAny_pure (ih (i + 1) (by lia) (by lia))
theorem tuple_index (l : Addr) (items : Array Value) (n : Nat) (x : Value) (e : Value → Bool) (he : ∀ y, y ∈ items → MeetsSeq.EqGives y x (e y)) (j : Nat) (hj : j < items.size)
    (hit : e items[j] = true) (hno : ∀ m (hm : m < items.size), m < j → e items[m] = false) :
    Meets (Builtin.«tuple.index» ⟨[.ref l, x], []⟩)
      (fun _ R s => s.heap.get? l = some (tupObj items n) ∧ R (.ok (.ret (.int j s.toks))) { s with toks := s.toks + 1 }) := .of_wp fun prog w A R s h => by
  obtain ⟨hp, g, d, tk, os⟩ := s; obtain ⟨hl, h⟩ := h
  wp_walk using wpAny_loadPart' hl
  show wpAny _ _ (forIn [:min items.size items.size] (none, ()) (tixF items x)) _ _ _
  rw [Std.Legacy.Range.forIn_eq_forIn_range']
  have : [:min items.size items.size].size = items.size := by simp [Std.Legacy.Range.size]
  rw [this]
  refine tix_loop items x e he j hj hit hno _ _ ?_ items.size 0 (by lia) (by lia)
  exact wpAny_pure ⟨_, rfl, h⟩

section
variable {G : Gd} {md : Md} {A : Around} {env : Env} {m : Str → Option Value} {loc : Loc} {σ σ' : Store} {s s' : Shared} {X : Exn → Prop}
theorem t_index {l : List V} {ss : List Str} {x : Str} {j : Nat} {Q : V → Store → Prop} (hs : strItems l = some ss) (hz : ss.length ≤ 2 ^ 20) (hj : idxS ss x = some j) (hq : Q (.int j) σ) : CallW G 0 (.builtin "tuple.index") [.tup l, .str x] σ Q X := by
  intro md A env m loc s vals hmd hhd S hr
  obtain ⟨v, w, rfl, r, hf, t, rfl⟩ := two_args hr
  obtain ⟨a, vs, n, rfl, _, ho, hl⟩ := r
  obtain ⟨h1, h2⟩ := strs_at hl hs
  rw [Array.length_toList] at h1
  obtain ⟨k1, k2, k3⟩ := idxS_spec hj
  have get : ∀ i (hi : i < vs.size), ∃ t, ∃ hi' : i < ss.length, vs[i] = .str ss[i] t := fun i hi => h2 i vs[i] (by simp [hi])
  refine call_meets F.slot_tuple_index ⟨_, ho, rfl⟩ F.entry_tuple_index (F.args_tuple_index_2 _ _) (tuple_index a vs n (.str x t) (isStrD x) (fun y hy => ?_) j (by lia) ?_ ?_) ⟨ho, ⟨_, σ, hq, ⟨_, rfl⟩, .tok .., S.sim⟩⟩
  · obtain ⟨i, hi, rfl⟩ := Array.mem_iff_getElem.mp hy
    obtain ⟨u, hi', e⟩ := get i hi
    rw [e]
    exact eq_gives_str ss[i] x u t
  · obtain ⟨u, hi', e⟩ := get j (by lia)
    rw [e]
    show decide (ss[j] = x) = true
    simp [k2]
  · intro i hi hlt
    obtain ⟨u, hi', e⟩ := get i hi
    rw [e]
    show decide (ss[i] = x) = false
    simp [k3 i hi' hlt]
end
end Mine
end

section
namespace Mine

noncomputable def fitB (s : Str) : Bool := PyData.strOk s && decide (s.length ≤ 2 ^ 20)
theorem fit_of {s : Str} (h : fitB s = true) : Fit s := by
  unfold fitB at h
  rw [Bool.and_eq_true] at h
  exact ⟨h.1, of_decide_eq_true h.2⟩
noncomputable def all2 (f : V → Value → Bool) : List V → List Value → Bool
  | [], ys => ys.isEmpty
  | x :: xs, ys => match ys with
    | y :: ys => f x y && all2 f xs ys
    | [] => false
noncomputable def kiB : List Int → List DictEntry → Bool
  | [], es => es.isEmpty
  | k :: ks, es => match es with
    | e :: es => (intOf e.key == some k) && e.hash == hashInt k && kiB ks es
    | [] => false
/-- an object of this type, with no dict of its own and no slots -/
noncomputable def barB (T : String) (o : Obj) : Bool := (typOf o.cls == some T) && o.dict.isNone && o.slots.isEmpty
theorem barB_eq {T : String} {o : Obj} (h : barB T o = true) : o = { cls := .type T, data := o.data } := by
  unfold barB at h
  rw [Bool.and_eq_true, Bool.and_eq_true] at h
  obtain ⟨⟨h1, h2⟩, h3⟩ := h
  have e1 := typOf_eq (beq_iff_eq.mp h1)
  have e2 := Option.isNone_iff_eq_none.mp h2
  have e3 := Array.isEmpty_iff.mp h3
  obtain ⟨c, d, dt, sl⟩ := o
  cases e1; cases e2; cases e3; rfl
noncomputable def tupB (f : V → Value → Bool) (l : List V) (o : Obj) : Bool := barB "tuple" o && (match seqD o.data with | some p => all2 f l p.1.toList | none => false)
noncomputable def idcB (f : V → Value → Bool) (ks : List Int) (vs : List V) (o : Obj) : Bool := barB "dict" o && (match dicD o.data with | some p => kiB ks p.1.toList && all2 f vs (p.1.toList.map (·.val)) | none => false)
noncomputable def atB (K : Frag) (v : Value) (g : Addr → Obj → Bool) : Bool := match refOf v with
  | some a => (match K.lookup a with | some o => g a o | none => false)
  | none => false
noncomputable def relB (K : Frag) : Nat → V → Value → Bool
  | 0, _, _ => false
  | n + 1, x, v => match x with
    | .none => noneOf v == some ()
    | .bool b => boolOf v == some b
    | .int i => intOf v == some i
    | .str s => decide (strOf v = some s) && fitB s
    | .tup l => atB K v fun _ o => tupB (relB K n) l o
    | .idc ks vs => atB K v fun a o => (a != sysModules) && idcB (relB K n) ks vs o
    | .ref a => refOf v == some a
    | .ty n => typOf v == some n
    | .bi n => bltOf v == some n
    | _ => false

theorem all2_rel {P : Params} {σ : Store} {h : Heap} {f : V → Value → Bool} (hf : ∀ x v, f x v = true → RelV P σ h x v) {l : List V} : ∀ {vs : List Value}, all2 f l vs = true → RelVs P σ h l vs := by
  induction l with
  | nil => intro vs e; exact List.isEmpty_iff.mp e
  | cons x xs ih =>
    intro vs e
    cases vs with
    | nil => cases e
    | cons y ys =>
      replace e : (f x y && all2 f xs ys) = true := e
      rw [Bool.and_eq_true] at e
      exact ⟨y, ys, rfl, hf _ _ e.1, ih e.2⟩
theorem kiB_rel {ks : List Int} : ∀ {es : List DictEntry}, kiB ks es = true → KI ks es := by
  induction ks with
  | nil => intro es e; exact List.isEmpty_iff.mp e
  | cons k ks ih =>
    intro es e
    cases es with
    | nil => cases e
    | cons d es =>
      replace e : ((intOf d.key == some k) && d.hash == hashInt k && kiB ks es) = true := e
      rw [Bool.and_eq_true, Bool.and_eq_true] at e
      obtain ⟨⟨h1, h2⟩, h3⟩ := e
      obtain ⟨t, ht⟩ := intOf_eq (beq_iff_eq.mp h1)
      exact ⟨d, es, t, rfl, ht, beq_iff_eq.mp h2, ih h3⟩
theorem atB_eq {K : Frag} {v : Value} {g : Addr → Obj → Bool} (h : atB K v g = true) : ∃ a o, v = .ref a ∧ K.lookup a = some o ∧ g a o = true := by
  unfold atB at h
  cases ha : refOf v with
  | none => rw [ha] at h; cases h
  | some a =>
    rw [ha] at h
    cases ho : K.lookup a with
    | none => simp only [ho] at h; cases h
    | some o => simp only [ho] at h; exact ⟨a, o, refOf_eq ha, ho, h⟩

section
variable {G : Gd} {K : Frag}

theorem relB_rel {σ : Store} {h : Heap} (hK : K.In G.base) (hs : G.base.StaysIn h) (off : ∀ b o, G.base.get? b = some o → σ b = none) (n : Nat) : ∀ {x : V} {v : Value}, relB K n x v = true → RelV G.P σ h x v := by
  induction n with
  | zero => intro x v e; cases e
  | succ n ih =>
    intro x v e
    cases x with
    | none => exact noneOf_eq (beq_iff_eq.mp e)
    | bool b => exact boolOf_eq (beq_iff_eq.mp e)
    | int i => exact intOf_eq (beq_iff_eq.mp e)
    | str s =>
      obtain ⟨e1, e2⟩ := Bool.and_eq_true_iff.mp e
      exact ⟨fit_of e2, strOf_eq (of_decide_eq_true e1)⟩
    | tup l =>
      obtain ⟨a, o, rfl, hl, q⟩ := atB_eq e
      obtain ⟨q1, q2⟩ := Bool.and_eq_true_iff.mp q
      have ho := barB_eq q1
      cases hd : seqD o.data with
      | none => rw [hd] at q2; cases q2
      | some p =>
        rw [hd] at q2
        rw [seqD_eq hd] at ho
        rw [ho] at hl
        exact ⟨a, _, _, rfl, off _ _ (hK _ _ hl), hs _ _ (hK _ _ hl), all2_rel (fun x v e => ih e) q2⟩
    | idc ks vs =>
      obtain ⟨a, o, rfl, hl, q⟩ := atB_eq e
      obtain ⟨q0, q⟩ := Bool.and_eq_true_iff.mp q
      obtain ⟨q1, q2⟩ := Bool.and_eq_true_iff.mp q
      have ho := barB_eq q1
      cases hd : dicD o.data with
      | none => rw [hd] at q2; cases q2
      | some p =>
        rw [hd] at q2
        obtain ⟨q3, q4⟩ := Bool.and_eq_true_iff.mp q2
        rw [dicD_eq hd] at ho
        rw [ho] at hl
        exact ⟨a, _, _, rfl, ⟨off _ _ (hK _ _ hl), by simpa using q0⟩, hs _ _ (hK _ _ hl), kiB_rel q3, all2_rel (fun x v e => ih e) q4⟩
    | ref a => exact refOf_eq (beq_iff_eq.mp e)
    | ty m => exact typOf_eq (beq_iff_eq.mp e)
    | bi m => exact bltOf_eq (beq_iff_eq.mp e)
    | _ => cases e

noncomputable def globB (K : Frag) (x : Str) (v : V) : Bool := match nsIn K mainGlobals x with
  | some (some w) => relB K 12 v w
  | _ => false
theorem globOf {x : Str} {v : V} (ok : G.Ok) (hK : K.In G.base) (h : globB K x v = true) : Glob G x v := by
  unfold globB at h
  split at h
  · rename_i w hw
    exact ⟨w, mg_of hK ok.top.g hw, fun σ h' hs off => relB_rel hK hs off 12 h⟩
  · cases h
noncomputable def bltV (w : Value) : V → Bool
  | .bi m => bltOf w == some m
  | .ty m => typOf w == some m
  | _ => false
noncomputable def bltnB (K : Frag) (x : Str) (v : V) : Bool := (nsIn K mainGlobals x == some none) && decide (x ≠ "__name__") && match bootBuiltins x with
  | some w => bltV w v
  | none => false
theorem bltnOf {x : Str} {v : V} (ok : G.Ok) (hK : K.In G.base) (h : bltnB K x v = true) : Bltn G x v := by
  unfold bltnB at h
  rw [Bool.and_eq_true, Bool.and_eq_true] at h
  obtain ⟨⟨h1, h2⟩, h3⟩ := h
  refine ⟨mg_none_of hK ok.top.g (beq_iff_eq.mp h1), of_decide_eq_true h2, ?_⟩
  cases hb : bootBuiltins x with
  | none => rw [hb] at h3; cases h3
  | some w =>
    rw [hb] at h3
    refine ⟨w, rfl, ?_⟩
    cases v with
    | bi m => exact .inl ⟨_, rfl, bltOf_eq (beq_iff_eq.mp h3)⟩
    | ty m => exact .inr ⟨_, rfl, typOf_eq (beq_iff_eq.mp h3)⟩
    | _ => cases h3

theorem fnAt {f c : Addr} {cl ccl : Value} {d cdd : Option Addr} {sl csl : Array (Option Value)} {name q : Str} {prm : Arguments} {body : List Stmt} {names : List (Str × NameKind)} {more : List (Str × Const)} {defaults kwd doc pm clt : Value} {ann : Option Addr} {cvs : Array Value} {t : Tok} {ps : List Str}
    (hK : K.In G.base) (h : K.lookup f = some ⟨cl, d, .func ⟨name, q, prm, .stmts body, ⟨.function, names, false, false, more⟩, mainGlobals, [], defaults, kwd, doc, pm, ann, .ref c, clt, builtinsNs⟩, sl⟩)
    (hc : K.lookup c = some ⟨ccl, cdd, .fields cvs, csl⟩) (hq : cvs[1]? = some (.str q t))
    (hb : ∀ s vals, vals.length = ps.length → G.base.StaysIn s.heap → BindsTo s ⟨name, q, prm, .stmts body, ⟨.function, names, false, false, more⟩, mainGlobals, [], defaults, kwd, doc, pm, ann, .ref c, clt, builtinsNs⟩ ⟨vals, []⟩ (ps.zip vals)) (nd : ps.Nodup := by decide) :
    FnAt G f ps body names ⟨cl, d, .func ⟨name, q, prm, .stmts body, ⟨.function, names, false, false, more⟩, mainGlobals, [], defaults, kwd, doc, pm, ann, .ref c, clt, builtinsNs⟩, sl⟩ ⟨name, q, prm, .stmts body, ⟨.function, names, false, false, more⟩, mainGlobals, [], defaults, kwd, doc, pm, ann, .ref c, clt, builtinsNs⟩ :=
  ⟨hK _ _ h, rfl, rfl, rfl, ⟨c, _, cvs, t, rfl, hK _ _ hc, rfl, hq⟩, rfl, rfl, rfl, rfl, rfl, rfl, hb, nd⟩
end

theorem bt0 {B : Shared → Prop} {fd : FuncData} (H : ∀ (s : Shared), BindsTo s fd ⟨[], []⟩ []) : ∀ (s : Shared) (vals : List Value), vals.length = ([] : List Str).length → B s → BindsTo s fd ⟨vals, []⟩ (([] : List Str).zip vals) := fun s vals h _ => by
  have e := len0 h
  subst e
  exact H s
theorem bt1 {B : Shared → Prop} {fd : FuncData} {p0 : Str} (H : ∀ (s : Shared) (a0 : Value), BindsTo s fd ⟨[a0], []⟩ [(p0, a0)]) : ∀ (s : Shared) (vals : List Value), vals.length = ([p0] : List Str).length → B s → BindsTo s fd ⟨vals, []⟩ (([p0] : List Str).zip vals) := fun s vals h _ => by
  obtain ⟨a0, e⟩ := len1 h
  subst e
  exact H s a0
theorem bt2 {B : Shared → Prop} {fd : FuncData} {p0 p1 : Str} (H : ∀ (s : Shared) (a0 a1 : Value), BindsTo s fd ⟨[a0, a1], []⟩ [(p0, a0), (p1, a1)]) : ∀ (s : Shared) (vals : List Value), vals.length = ([p0, p1] : List Str).length → B s → BindsTo s fd ⟨vals, []⟩ (([p0, p1] : List Str).zip vals) := fun s vals h _ => by
  obtain ⟨a0, a1, e⟩ := len2 h
  subst e
  exact H s a0 a1
theorem bt3 {B : Shared → Prop} {fd : FuncData} {p0 p1 p2 : Str} (H : ∀ (s : Shared) (a0 a1 a2 : Value), BindsTo s fd ⟨[a0, a1, a2], []⟩ [(p0, a0), (p1, a1), (p2, a2)]) : ∀ (s : Shared) (vals : List Value), vals.length = ([p0, p1, p2] : List Str).length → B s → BindsTo s fd ⟨vals, []⟩ (([p0, p1, p2] : List Str).zip vals) := fun s vals h _ => by
  obtain ⟨a0, a1, a2, e⟩ := len3 h
  subst e
  exact H s a0 a1 a2
theorem bt4 {B : Shared → Prop} {fd : FuncData} {p0 p1 p2 p3 : Str} (H : ∀ (s : Shared) (a0 a1 a2 a3 : Value), BindsTo s fd ⟨[a0, a1, a2, a3], []⟩ [(p0, a0), (p1, a1), (p2, a2), (p3, a3)]) : ∀ (s : Shared) (vals : List Value), vals.length = ([p0, p1, p2, p3] : List Str).length → B s → BindsTo s fd ⟨vals, []⟩ (([p0, p1, p2, p3] : List Str).zip vals) := fun s vals h _ => by
  obtain ⟨a0, a1, a2, a3, e⟩ := len4 h
  subst e
  exact H s a0 a1 a2 a3
theorem bt5 {B : Shared → Prop} {fd : FuncData} {p0 p1 p2 p3 p4 : Str} (H : ∀ (s : Shared) (a0 a1 a2 a3 a4 : Value), BindsTo s fd ⟨[a0, a1, a2, a3, a4], []⟩ [(p0, a0), (p1, a1), (p2, a2), (p3, a3), (p4, a4)]) : ∀ (s : Shared) (vals : List Value), vals.length = ([p0, p1, p2, p3, p4] : List Str).length → B s → BindsTo s fd ⟨vals, []⟩ (([p0, p1, p2, p3, p4] : List Str).zip vals) := fun s vals h _ => by
  obtain ⟨a0, a1, a2, a3, a4, e⟩ := len5 h
  subst e
  exact H s a0 a1 a2 a3 a4
theorem bt6 {B : Shared → Prop} {fd : FuncData} {p0 p1 p2 p3 p4 p5 : Str} (H : ∀ (s : Shared) (a0 a1 a2 a3 a4 a5 : Value), BindsTo s fd ⟨[a0, a1, a2, a3, a4, a5], []⟩ [(p0, a0), (p1, a1), (p2, a2), (p3, a3), (p4, a4), (p5, a5)]) : ∀ (s : Shared) (vals : List Value), vals.length = ([p0, p1, p2, p3, p4, p5] : List Str).length → B s → BindsTo s fd ⟨vals, []⟩ (([p0, p1, p2, p3, p4, p5] : List Str).zip vals) := fun s vals h _ => by
  obtain ⟨a0, a1, a2, a3, a4, a5, e⟩ := len6 h
  subst e
  exact H s a0 a1 a2 a3 a4 a5
end Mine
end

section
namespace Mine

section
variable {G : Gd} {md : Md} {A : Around} {env : Env} {m : Str → Option Value} {loc : Loc} {σ σ' : Store} {s s' : Shared} {X : Exn → Prop}

theorem cmp_nil {a b : V} {va vb : Value} {l : List V} {Qv : Value → Shared → Prop} {E : Value → Shared → Prop} (hu : A.units + 200 ≤ cLine) (sim : Sim G.P σ s.heap) (ra : RelV G.P σ s.heap a va) (rb : RelV G.P σ s.heap b vb)
    (ea : lk σ a = .lst l) (eb : lk σ b = .lst []) : (Qv (.bool l.isEmpty) s → wpAny G.M A (compareOp .Eq va vb) Qv E s) ∧ (Qv (.bool !l.isEmpty) s → wpAny G.M A (compareOp .NotEq va vb) Qv E s) := by
  obtain ⟨x, vs, n, rfl, ho, hr⟩ := see_lst sim ra ea
  obtain ⟨y, ws, k, rfl, hp, hq⟩ := see_lst sim rb eb
  have e1 := hr.length
  have e2 := hq.length
  rw [Array.length_toList] at e1 e2
  have hu' : A.units < cLine := by lia
  cases l with
  | nil =>
    have hz : vs.size = ws.size := by rw [e1, e2]
    have h0 : vs.size = 0 := e1
    have hall : ∀ (e : Nat → Bool), (List.range vs.size).all e = true := fun e => by rw [h0]; rfl
    refine ⟨fun h => ?_, fun h => ?_⟩
    · exact SeqAt.eq_listAt (e := fun _ => true) ⟨_, ho, rfl, n, rfl⟩ ⟨_, hp, rfl, k, rfl⟩ hz hu' (fun j h1 => absurd h1 (by lia)) (by rw [hall]; exact h)
    · exact SeqAt.RcNeAt.lists (e := fun _ => true) ⟨_, ho, rfl, n, rfl⟩ ⟨_, hp, rfl, k, rfl⟩ hz hu' (fun j h1 => absurd h1 (by lia)) G.prog G.w _ _ (by rw [hall]; exact h)
  | cons v l =>
    have hz : (vs.size != ws.size) = true := by rw [e1, e2]; simp
    exact ⟨fun h => SeqAt.eq_list_lengthsAt ⟨_, ho, rfl, n, rfl⟩ ⟨_, hp, rfl, k, rfl⟩ hz hu' h, fun h => SeqAt.RcNeAt.lists_lengths ⟨_, ho, rfl, n, rfl⟩ ⟨_, hp, rfl, k, rfl⟩ hz hu' G.prog G.w _ _ h⟩

inductive NilR (a : V) (Q1 : List V → Store → Prop) (b : V) (σ2 : Store) : Prop | mk (xs : List V) (h1 : lk σ2 a = .lst xs) (h2 : lk σ2 b = .lst []) (q : Q1 xs σ2)
abbrev EqNilQ (Q : Bool → Store → Prop) : List V → Store → Prop := fun xs σ2 => Q xs.isEmpty σ2
abbrev NeNilQ (Q : Bool → Store → Prop) : List V → Store → Prop := fun xs σ2 => Q (!xs.isEmpty) σ2
abbrev NilQ (G : Gd) (md : Md) (r : Expr) (loc : Loc) (Q1 : List V → Store → Prop) (X : Exn → Prop) : V → Store → Prop := fun a σ1 => EvW G md r loc σ1 (NilR a Q1) X
/-- a list that is, or is not, the empty one -/
theorem ts_eq_nil {l r : Expr} {pos : Pos} {Q : Bool → Store → Prop} (h : EvW G md l loc σ (NilQ G md r loc (EqNilQ Q) X) X) (hm : behindInMarks .Eq r = false := by with_unfolding_all rfl) :
    TsW G md (.Compare l [.Eq] [r] pos) loc σ Q X := fun A env m s S => by
  refine wpAny_isTrue_Compare1 (two S h fun a b va vb σ2 s2 q aft S2 ra rb => ?_) hm
  obtain ⟨xs, h1, h2, hq⟩ := q
  exact (cmp_nil (units_of S2) S2.sim ra rb h1 h2).1 (truthy_b ⟨σ2, hq, aft, S2.sim⟩)
theorem ts_ne_nil {l r : Expr} {pos : Pos} {Q : Bool → Store → Prop} (h : EvW G md l loc σ (NilQ G md r loc (NeNilQ Q) X) X) (hm : behindInMarks .NotEq r = false := by with_unfolding_all rfl) :
    TsW G md (.Compare l [.NotEq] [r] pos) loc σ Q X := fun A env m s S => by
  refine wpAny_isTrue_Compare1 (two S h fun a b va vb σ2 s2 q aft S2 ra rb => ?_) hm
  obtain ⟨xs, h1, h2, hq⟩ := q
  exact (cmp_nil (units_of S2) S2.sim ra rb h1 h2).2 (truthy_b ⟨σ2, hq, aft, S2.sim⟩)
end
end Mine
end

section
namespace Mine
noncomputable def nth : List Stmt → Nat → Stmt
  | x :: _, 0 => x
  | _ :: r, n + 1 => nth r n
  | [], _ => default
noncomputable def clsBody (s : Stmt) : List Stmt := if h : s.ctorIdx = 2 then Stmt.ClassDef.elim s h fun _ _ _ b _ _ _ _ _ _ _ => b else []
noncomputable def fArgs (s : Stmt) : Arguments := if h : s.ctorIdx = 0 then Stmt.FunctionDef.elim s h fun _ a _ _ _ _ _ _ _ _ => a else ⟨[], [], none, [], [], none, []⟩
noncomputable def fBody (s : Stmt) : List Stmt := if h : s.ctorIdx = 0 then Stmt.FunctionDef.elim s h fun _ _ b _ _ _ _ _ _ _ => b else []
noncomputable def fScope (s : Stmt) : Scope := if h : s.ctorIdx = 0 then Stmt.FunctionDef.elim s h fun _ _ _ _ _ _ c _ _ _ => c else default
noncomputable abbrev pB : List Stmt := PySem.Challenge.pw_nm0158_02.main.body
noncomputable def kd (P : Params) (k : Str) (t : Tok) (v : Value) : DictEntry := ⟨PyData.keyHash P k, .str k t, v⟩
noncomputable def fO (n q : Str) (st : Stmt) (md : Str) (t : Tok) (c : Addr) : Obj := ⟨.type "function", none, .func ⟨n, q, fArgs st, .stmts (fBody st), fScope st, 3, [], .none, .none, .none, .str md t, none, .ref c, .none, 0⟩, #[]⟩
noncomputable def cO (n q : Str) (t : Nat) (line argc : Int) (a : Addr) (z : Bool) (i : Nat) : Obj := ⟨.type "code", none, .fields #[.str n t, .str q (t + 1), .str "/claim/cut.py" (t + 2), .int line 0, .int argc 0, .int 0 0, .int 0 0, .int 3 0, .ref a, .bool true, .int 181 0, .ref (a + 1), .none, if z = true then .ref (a + 2) else .none, if z = true then .ref (a + 3) else .none, .ref (if z = true then a + 4 else a + 2), .int (i : Int) 0, .int line 0, .str "/claim/cut.py" (i + 1)], #[]⟩
/-- the objects of the text's top that the proof speaks of -/
noncomputable def KK (P : Params) : Frag := [
  (2, ⟨.none, none, (.dict #[kd P "type.__subclasses__.Exception.0" 574 (.int 137 0), kd P "type.__subclasses__.Exception.n" 575 (.int 1 0)] 2), #[]⟩),
  (3, ⟨(.type "dict"), none, (.dict #[kd P "__name__" 165 (.str "law_nm0158_02" 1505), kd P "__doc__" 166 .none, kd P "__package__" 167 .none, kd P "__loader__" 168 (.builtin "__main__.__loader__#opaque"), kd P "__spec__" 169 .none, kd P "__annotations__" 170 (.ref 6), kd P "__builtins__" 171 (.ref 4), kd P "__file__" 173 (.str "/claim/cut.py" 172), kd P "__cached__" 174 .none, kd P "I32" 191 (.int (-1) 190), kd P "I64" 194 (.int (-2) 193), kd P "FUNCREF" 197 (.int (-16) 196), kd P "EXTERNREF" 200 (.int (-17) 199), kd P "EMPTY" 203 (.int (-64) 202), kd P "KIND_NAMES" 212 (.ref 15), kd P "LEFT_NAMES" 225 (.ref 16), kd P "HEAP_NAMES" 230 (.ref 17), kd P "kind_of" 238 (.ref 24), kd P "is_left_name" 245 (.ref 31), kd P "heap_of" 253 (.ref 38), kd P "UNREACHABLE" 257 (.int 0 256), kd P "NOP" 259 (.int 1 258), kd P "BLOCK" 261 (.int 2 260), kd P "LOOP" 263 (.int 3 262), kd P "IF" 265 (.int 4 264), kd P "ELSE" 267 (.int 5 266), kd P "END" 269 (.int 11 268), kd P "BR" 271 (.int 12 270), kd P "BR_IF" 273 (.int 13 272), kd P "BR_TABLE" 275 (.int 14 274), kd P "RETURN" 277 (.int 15 276), kd P "CALL" 279 (.int 16 278), kd P "CALL_INDIRECT" 281 (.int 17 280), kd P "RETURN_CALL" 283 (.int 18 282), kd P "RETURN_CALL_INDIRECT" 285 (.int 19 284), kd P "DROP" 287 (.int 26 286), kd P "SELECT" 289 (.int 27 288), kd P "SELECT_KINDS" 291 (.int 28 290), kd P "LOCAL_GET" 293 (.int 32 292), kd P "LOCAL_SET" 295 (.int 33 294), kd P "LOCAL_TEE" 297 (.int 34 296), kd P "GLOBAL_GET" 299 (.int 35 298), kd P "GLOBAL_SET" 301 (.int 36 300), kd P "TABLE_GET" 303 (.int 37 302), kd P "TABLE_SET" 305 (.int 38 304), kd P "MEMORY_SIZE" 307 (.int 63 306), kd P "MEMORY_GROW" 309 (.int 64 308), kd P "I32_CONST" 311 (.int 65 310), kd P "I64_CONST" 313 (.int 66 312), kd P "REF_NULL" 315 (.int 208 314), kd P "REF_IS_NULL" 317 (.int 209 316), kd P "REF_FUNC" 319 (.int 210 318), kd P "MEMORY_INIT" 321 (.int 64520 320), kd P "DATA_DROP" 323 (.int 64521 322), kd P "MEMORY_COPY" 325 (.int 64522 324), kd P "MEMORY_FILL" 327 (.int 64523 326), kd P "TABLE_INIT" 329 (.int 64524 328), kd P "ELEM_DROP" 331 (.int 64525 330), kd P "TABLE_COPY" 333 (.int 64526 332), kd P "TABLE_GROW" 335 (.int 64527 334), kd P "TABLE_SIZE" 337 (.int 64528 336), kd P "TABLE_FILL" 339 (.int 64529 338), kd P "LOADS" 388 (.ref 39), kd P "STORES" 410 (.ref 52), kd P "FORMS" 495 (.ref 60), kd P "NUMBERS" 520 (.ref 99), kd P "number_kind" 531 (.ref 106), kd P "form_of" 538 (.ref 113), kd P "natural" 546 (.ref 120), kd P "WasmFault" 577 (.ref 137), kd P "BadText" 605 (.ref 157), kd P "LeftOut" 631 (.ref 176), kd P "DIGITS" 635 (.str "0123456789" 634), kd P "HEX_DIGITS" 637 (.str "0123456789abcdefABCDEF" 636), kd P "Token" 674 (.ref 195), kd P "Branch" 715 (.ref 223), kd P "is_token" 724 (.ref 235), kd P "whole_of" 736 (.ref 242), kd P "int_of" 746 (.ref 249), kd P "u32_of" 753 (.ref 256), kd P "TESTS" 767 (.ref 257), kd P "SUMS" 786 (.ref 258), kd P "ROWS" 795 (.ref 263), kd P "NAMES" 1003 (.ref 264), kd P "code_of" 1014 (.ref 275), kd P "is_left_word" 1021 (.ref 282), kd P "MOST_COUNT" 1025 (.int 4294967295 1024), kd P "BLOCK_WORDS" 1029 (.ref 283), kd P "OTHER_WORDS" 1056 (.ref 284), kd P "SPACE_OF_FORM" 1072 (.ref 285), kd P "refuse" 1080 (.ref 292), kd P "head_of" 1087 (.ref 299), kd P "is_other_word" 1094 (.ref 306), kd P "value_kind" 1102 (.ref 313), kd P "kinds_in" 1108 (.ref 318), kd P "has_index" 1116 (.ref 325), kd P "index_at" 1125 (.ref 332), kd P "word_at" 1133 (.ref 339), kd P "count_of" 1142 (.ref 346), kd P "exponent_of" 1151 (.ref 353), kd P "Label" 1185 (.ref 370), kd P "ItemRun" 1219 (.ref 391), kd P "run_task" 1228 (.ref 402), kd P "BodyReader" 1495 (.ref 564), kd P "read_body" 1504 (.ref 575), kd P "_law_any" 1514 (.ref 582), kd P "_law_goal" 1520 (.ref 587), kd P "_law_step" 1526 (.ref 592), kd P "_law_texts" 1536 (.ref 599), kd P "_law_sort" 1543 (.ref 606), kd P "_law_token" 1552 (.ref 613), kd P "_law_no" 1560 (.ref 620), kd P "_law_label" 1570 (.ref 627), kd P "_law_branch" 1576 (.ref 632), kd P "_law_due" 1582 (.ref 637), kd P "law" 1588 (.ref 642)] 116), #[]⟩),
  (15, ⟨(.type "dict"), none, (.dict #[⟨(-2), (.int (-1) 190), (.str "i32" 204)⟩, ⟨(-2), (.int (-2) 193), (.str "i64" 205)⟩, ⟨(-16), (.int (-16) 196), (.str "funcref" 206)⟩, ⟨(-17), (.int (-17) 199), (.str "externref" 207)⟩] 4), #[]⟩),
  (16, ⟨(.type "dict"), none, (.dict #[⟨(-3), (.int (-3) 214), (.str "f32" 215)⟩, ⟨(-4), (.int (-4) 217), (.str "f64" 218)⟩, ⟨(-5), (.int (-5) 220), (.str "v128" 221)⟩] 3), #[]⟩),
  (17, ⟨(.type "dict"), none, (.dict #[⟨(-16), (.int (-16) 196), (.str "func" 226)⟩, ⟨(-17), (.int (-17) 199), (.str "extern" 227)⟩] 2), #[]⟩),
  (39, ⟨(.type "dict"), none, (.dict #[⟨40, (.int 40 340), (.ref 40)⟩, ⟨41, (.int 41 343), (.ref 41)⟩, ⟨44, (.int 44 346), (.ref 42)⟩, ⟨45, (.int 45 349), (.ref 43)⟩, ⟨46, (.int 46 352), (.ref 44)⟩, ⟨47, (.int 47 355), (.ref 45)⟩, ⟨48, (.int 48 358), (.ref 46)⟩, ⟨49, (.int 49 361), (.ref 47)⟩, ⟨50, (.int 50 364), (.ref 48)⟩, ⟨51, (.int 51 367), (.ref 49)⟩, ⟨52, (.int 52 370), (.ref 50)⟩, ⟨53, (.int 53 373), (.ref 51)⟩] 12), #[]⟩),
  (40, ⟨(.type "tuple"), none, (.seq #[(.int (-1) 190), (.int 4 341), (.int 0 342)] 0), #[]⟩),
  (41, ⟨(.type "tuple"), none, (.seq #[(.int (-2) 193), (.int 8 344), (.int 0 345)] 0), #[]⟩),
  (42, ⟨(.type "tuple"), none, (.seq #[(.int (-1) 190), (.int 1 347), (.int 1 348)] 0), #[]⟩),
  (43, ⟨(.type "tuple"), none, (.seq #[(.int (-1) 190), (.int 1 350), (.int 0 351)] 0), #[]⟩),
  (44, ⟨(.type "tuple"), none, (.seq #[(.int (-1) 190), (.int 2 353), (.int 1 354)] 0), #[]⟩),
  (45, ⟨(.type "tuple"), none, (.seq #[(.int (-1) 190), (.int 2 356), (.int 0 357)] 0), #[]⟩),
  (46, ⟨(.type "tuple"), none, (.seq #[(.int (-2) 193), (.int 1 359), (.int 1 360)] 0), #[]⟩),
  (47, ⟨(.type "tuple"), none, (.seq #[(.int (-2) 193), (.int 1 362), (.int 0 363)] 0), #[]⟩),
  (48, ⟨(.type "tuple"), none, (.seq #[(.int (-2) 193), (.int 2 365), (.int 1 366)] 0), #[]⟩),
  (49, ⟨(.type "tuple"), none, (.seq #[(.int (-2) 193), (.int 2 368), (.int 0 369)] 0), #[]⟩),
  (50, ⟨(.type "tuple"), none, (.seq #[(.int (-2) 193), (.int 4 371), (.int 1 372)] 0), #[]⟩),
  (51, ⟨(.type "tuple"), none, (.seq #[(.int (-2) 193), (.int 4 374), (.int 0 375)] 0), #[]⟩),
  (52, ⟨(.type "dict"), none, (.dict #[⟨54, (.int 54 389), (.ref 53)⟩, ⟨55, (.int 55 391), (.ref 54)⟩, ⟨58, (.int 58 393), (.ref 55)⟩, ⟨59, (.int 59 395), (.ref 56)⟩, ⟨60, (.int 60 397), (.ref 57)⟩, ⟨61, (.int 61 399), (.ref 58)⟩, ⟨62, (.int 62 401), (.ref 59)⟩] 7), #[]⟩),
  (53, ⟨(.type "tuple"), none, (.seq #[(.int (-1) 190), (.int 4 390)] 0), #[]⟩),
  (54, ⟨(.type "tuple"), none, (.seq #[(.int (-2) 193), (.int 8 392)] 0), #[]⟩),
  (55, ⟨(.type "tuple"), none, (.seq #[(.int (-1) 190), (.int 1 394)] 0), #[]⟩),
  (56, ⟨(.type "tuple"), none, (.seq #[(.int (-1) 190), (.int 2 396)] 0), #[]⟩),
  (57, ⟨(.type "tuple"), none, (.seq #[(.int (-2) 193), (.int 1 398)] 0), #[]⟩),
  (58, ⟨(.type "tuple"), none, (.seq #[(.int (-2) 193), (.int 2 400)] 0), #[]⟩),
  (59, ⟨(.type "tuple"), none, (.seq #[(.int (-2) 193), (.int 4 402)] 0), #[]⟩),
  (60, ⟨(.type "dict"), none, (.dict #[⟨0, (.int 0 256), (.str "none" 411)⟩, ⟨1, (.int 1 258), (.str "none" 413)⟩, ⟨2, (.int 2 260), (.str "block" 415)⟩, ⟨3, (.int 3 262), (.str "block" 417)⟩, ⟨4, (.int 4 264), (.str "block" 419)⟩, ⟨5, (.int 5 266), (.str "none" 421)⟩, ⟨11, (.int 11 268), (.str "none" 423)⟩, ⟨12, (.int 12 270), (.str "label" 425)⟩, ⟨13, (.int 13 272), (.str "label" 427)⟩, ⟨14, (.int 14 274), (.str "labels" 429)⟩, ⟨15, (.int 15 276), (.str "none" 431)⟩, ⟨16, (.int 16 278), (.str "func" 433)⟩, ⟨17, (.int 17 280), (.str "indirect" 435)⟩, ⟨18, (.int 18 282), (.str "func" 437)⟩, ⟨19, (.int 19 284), (.str "indirect" 439)⟩, ⟨26, (.int 26 286), (.str "none" 441)⟩, ⟨27, (.int 27 288), (.str "none" 443)⟩, ⟨28, (.int 28 290), (.str "kinds" 445)⟩, ⟨32, (.int 32 292), (.str "local" 447)⟩, ⟨33, (.int 33 294), (.str "local" 449)⟩, ⟨34, (.int 34 296), (.str "local" 451)⟩, ⟨35, (.int 35 298), (.str "global" 453)⟩, ⟨36, (.int 36 300), (.str "global" 455)⟩, ⟨37, (.int 37 302), (.str "table" 457)⟩, ⟨38, (.int 38 304), (.str "table" 459)⟩, ⟨63, (.int 63 306), (.str "memory" 461)⟩, ⟨64, (.int 64 308), (.str "memory" 463)⟩, ⟨65, (.int 65 310), (.str "i32" 465)⟩, ⟨66, (.int 66 312), (.str "i64" 467)⟩, ⟨208, (.int 208 314), (.str "refkind" 469)⟩, ⟨209, (.int 209 316), (.str "none" 471)⟩, ⟨210, (.int 210 318), (.str "func" 473)⟩, ⟨64520, (.int 64520 320), (.str "memory_init" 475)⟩, ⟨64521, (.int 64521 322), (.str "data" 477)⟩, ⟨64522, (.int 64522 324), (.str "two_memories" 479)⟩, ⟨64523, (.int 64523 326), (.str "memory" 480)⟩, ⟨64524, (.int 64524 328), (.str "table_init" 481)⟩, ⟨64525, (.int 64525 330), (.str "elem" 482)⟩, ⟨64526, (.int 64526 332), (.str "table_copy" 483)⟩, ⟨64527, (.int 64527 334), (.str "table" 484)⟩, ⟨64528, (.int 64528 336), (.str "table" 485)⟩, ⟨64529, (.int 64529 338), (.str "table" 486)⟩] 42), #[]⟩),
  (63, ⟨(.type "tuple"), none, (.seq #[(.int (-1) 190)] 0), #[]⟩),
  (64, ⟨(.type "tuple"), none, (.seq #[(.int (-1) 190)] 0), #[]⟩),
  (65, ⟨(.type "tuple"), none, (.seq #[(.int 69 496), (.int 69 497), (.ref 63), (.ref 64)] 0), #[]⟩),
  (66, ⟨(.type "tuple"), none, (.seq #[(.int (-1) 190), (.int (-1) 190)] 0), #[]⟩),
  (67, ⟨(.type "tuple"), none, (.seq #[(.int (-1) 190)] 0), #[]⟩),
  (68, ⟨(.type "tuple"), none, (.seq #[(.int 70 498), (.int 79 499), (.ref 66), (.ref 67)] 0), #[]⟩),
  (69, ⟨(.type "tuple"), none, (.seq #[(.int (-2) 193)] 0), #[]⟩),
  (70, ⟨(.type "tuple"), none, (.seq #[(.int (-1) 190)] 0), #[]⟩),
  (71, ⟨(.type "tuple"), none, (.seq #[(.int 80 500), (.int 80 501), (.ref 69), (.ref 70)] 0), #[]⟩),
  (72, ⟨(.type "tuple"), none, (.seq #[(.int (-2) 193), (.int (-2) 193)] 0), #[]⟩),
  (73, ⟨(.type "tuple"), none, (.seq #[(.int (-1) 190)] 0), #[]⟩),
  (74, ⟨(.type "tuple"), none, (.seq #[(.int 81 502), (.int 90 503), (.ref 72), (.ref 73)] 0), #[]⟩),
  (75, ⟨(.type "tuple"), none, (.seq #[(.int (-1) 190)] 0), #[]⟩),
  (76, ⟨(.type "tuple"), none, (.seq #[(.int (-1) 190)] 0), #[]⟩),
  (77, ⟨(.type "tuple"), none, (.seq #[(.int 103 504), (.int 105 505), (.ref 75), (.ref 76)] 0), #[]⟩),
  (78, ⟨(.type "tuple"), none, (.seq #[(.int (-1) 190), (.int (-1) 190)] 0), #[]⟩),
  (79, ⟨(.type "tuple"), none, (.seq #[(.int (-1) 190)] 0), #[]⟩),
  (80, ⟨(.type "tuple"), none, (.seq #[(.int 106 506), (.int 120 507), (.ref 78), (.ref 79)] 0), #[]⟩),
  (81, ⟨(.type "tuple"), none, (.seq #[(.int (-2) 193)] 0), #[]⟩),
  (82, ⟨(.type "tuple"), none, (.seq #[(.int (-2) 193)] 0), #[]⟩),
  (83, ⟨(.type "tuple"), none, (.seq #[(.int 121 508), (.int 123 509), (.ref 81), (.ref 82)] 0), #[]⟩),
  (84, ⟨(.type "tuple"), none, (.seq #[(.int (-2) 193), (.int (-2) 193)] 0), #[]⟩),
  (85, ⟨(.type "tuple"), none, (.seq #[(.int (-2) 193)] 0), #[]⟩),
  (86, ⟨(.type "tuple"), none, (.seq #[(.int 124 510), (.int 138 511), (.ref 84), (.ref 85)] 0), #[]⟩),
  (87, ⟨(.type "tuple"), none, (.seq #[(.int (-2) 193)] 0), #[]⟩),
  (88, ⟨(.type "tuple"), none, (.seq #[(.int (-1) 190)] 0), #[]⟩),
  (89, ⟨(.type "tuple"), none, (.seq #[(.int 167 512), (.int 167 513), (.ref 87), (.ref 88)] 0), #[]⟩),
  (90, ⟨(.type "tuple"), none, (.seq #[(.int (-1) 190)] 0), #[]⟩),
  (91, ⟨(.type "tuple"), none, (.seq #[(.int (-2) 193)] 0), #[]⟩),
  (92, ⟨(.type "tuple"), none, (.seq #[(.int 172 514), (.int 173 515), (.ref 90), (.ref 91)] 0), #[]⟩),
  (93, ⟨(.type "tuple"), none, (.seq #[(.int (-1) 190)] 0), #[]⟩),
  (94, ⟨(.type "tuple"), none, (.seq #[(.int (-1) 190)] 0), #[]⟩),
  (95, ⟨(.type "tuple"), none, (.seq #[(.int 192 516), (.int 193 517), (.ref 93), (.ref 94)] 0), #[]⟩),
  (96, ⟨(.type "tuple"), none, (.seq #[(.int (-2) 193)] 0), #[]⟩),
  (97, ⟨(.type "tuple"), none, (.seq #[(.int (-2) 193)] 0), #[]⟩),
  (98, ⟨(.type "tuple"), none, (.seq #[(.int 194 518), (.int 196 519), (.ref 96), (.ref 97)] 0), #[]⟩),
  (99, ⟨(.type "tuple"), none, (.seq #[(.ref 65), (.ref 68), (.ref 71), (.ref 74), (.ref 77), (.ref 80), (.ref 83), (.ref 86), (.ref 89), (.ref 92), (.ref 95), (.ref 98)] 0), #[]⟩),
  (105, cO "number_kind" "number_kind" 521 69 1 100 true 529),
  (106, fO "number_kind" "number_kind" (nth pB 59) "wasmcore.codes" 254 105),
  (112, cO "form_of" "form_of" 532 74 1 107 true 536),
  (113, fO "form_of" "form_of" (nth pB 60) "wasmcore.codes" 254 112),
  (121, ⟨(.type "tuple"), none, (.seq #[(.type "Exception")] 0), #[]⟩),
  (133, cO "__init__" "WasmFault.__init__" 561 86 2 128 true 566),
  (134, fO "__init__" "WasmFault.__init__" (nth (clsBody (nth pB 63)) 0) "wasmcore.faults" 547 133),
  (135, ⟨(.type "tuple"), none, (.seq #[(.str "why" 569)] 0), #[]⟩),
  (136, ⟨(.type "dict"), none, (.dict #[kd P "__module__" 556 (.str "wasmcore.faults" 547), kd P "__firstlineno__" 560 (.int 84 559), kd P "__init__" 568 (.ref 134), kd P "__static_attributes__" 570 (.ref 135), kd P "__weakref__" 572 (.ref 138), kd P "__doc__" 573 .none] 3), #[]⟩),
  (137, ⟨(.type "type"), none, (.cls ⟨"WasmFault", [(.type "Exception")], [(.ref 137), (.type "Exception"), (.type "BaseException"), (.type "object")], 136, "WasmFault", true, [], [(.ref 157), (.ref 176)], false, none, false⟩), #[(.some (.ref 121)), none, (.some (.str "WasmFault" 549)), (.some (.str "WasmFault" 557)), (.some (.builtin "Exception.__new__")), (.some (.bool true))]⟩),
  (138, ⟨(.type "getset_descriptor"), none, (.fields #[(.str "__weakref__" 571), (.ref 137), (.builtin "ExceptionGroup.__weakref__"), .none]), #[]⟩),
  (141, ⟨(.type "tuple"), none, (.seq #[(.ref 137)] 0), #[]⟩),
  (153, cO "__init__" "BadText.__init__" 590 91 4 148 true 597),
  (154, fO "__init__" "BadText.__init__" (nth (clsBody (nth pB 64)) 0) "wasmcore.faults" 547 153),
  (155, ⟨(.type "tuple"), none, (.seq #[(.str "column" 600), (.str "row" 601)] 0), #[]⟩),
  (156, ⟨(.type "dict"), none, (.dict #[kd P "__module__" 585 (.str "wasmcore.faults" 547), kd P "__firstlineno__" 589 (.int 89 588), kd P "__init__" 599 (.ref 154), kd P "__static_attributes__" 602 (.ref 155), kd P "__doc__" 603 .none] 2), #[]⟩),
  (157, ⟨(.type "type"), none, (.cls ⟨"BadText", [(.ref 137)], [(.ref 157), (.ref 137), (.type "Exception"), (.type "BaseException"), (.type "object")], 156, "BadText", true, [], [], false, none, false⟩), #[(.some (.ref 141)), none, (.some (.str "BadText" 578)), (.some (.str "BadText" 586)), (.some (.builtin "Exception.__new__")), (.some (.bool true))]⟩),
  (160, ⟨(.type "tuple"), none, (.seq #[(.ref 137)] 0), #[]⟩),
  (172, cO "__init__" "LeftOut.__init__" 618 97 3 167 true 624),
  (173, fO "__init__" "LeftOut.__init__" (nth (clsBody (nth pB 65)) 0) "wasmcore.faults" 547 172),
  (174, ⟨(.type "tuple"), none, (.seq #[(.str "at" 627)] 0), #[]⟩),
  (175, ⟨(.type "dict"), none, (.dict #[kd P "__module__" 613 (.str "wasmcore.faults" 547), kd P "__firstlineno__" 617 (.int 95 616), kd P "__init__" 626 (.ref 173), kd P "__static_attributes__" 628 (.ref 174), kd P "__doc__" 629 .none] 2), #[]⟩),
  (176, ⟨(.type "type"), none, (.cls ⟨"LeftOut", [(.ref 137)], [(.ref 176), (.ref 137), (.type "Exception"), (.type "BaseException"), (.type "object")], 175, "LeftOut", true, [], [], false, none, false⟩), #[(.some (.ref 160)), none, (.some (.str "LeftOut" 606)), (.some (.str "LeftOut" 614)), (.some (.builtin "Exception.__new__")), (.some (.bool true))]⟩),
  (191, cO "__init__" "Token.__init__" 650 105 6 186 true 659),
  (192, fO "__init__" "Token.__init__" (nth (clsBody (nth pB 69)) 0) "wasmcore.lexer" 632 191),
  (193, ⟨(.type "tuple"), none, (.seq #[(.str "column" 662), (.str "row" 663), (.str "sort" 664), (.str "text" 665), (.str "value" 666)] 0), #[]⟩),
  (194, ⟨(.type "dict"), none, (.dict #[kd P "__module__" 645 (.str "wasmcore.lexer" 632), kd P "__firstlineno__" 649 (.int 103 648), kd P "__init__" 661 (.ref 192), kd P "__static_attributes__" 667 (.ref 193), kd P "__dict__" 669 (.ref 196), kd P "__weakref__" 671 (.ref 197), kd P "__doc__" 672 .none] 4), #[]⟩),
  (195, ⟨(.type "type"), none, (.cls ⟨"Token", [(.type "object")], [(.ref 195), (.type "object")], 194, "Token", true, [], [], false, none, false⟩), #[none, none, (.some (.str "Token" 638)), (.some (.str "Token" 646)), (.some (.builtin "object.__new__")), (.some (.bool true))]⟩),
  (196, ⟨(.type "getset_descriptor"), none, (.fields #[(.str "__dict__" 668), (.ref 195), (.builtin "function.__dict__"), (.builtin "function.__dict__#set")]), #[]⟩),
  (197, ⟨(.type "getset_descriptor"), none, (.fields #[(.str "__weakref__" 670), (.ref 195), (.builtin "ExceptionGroup.__weakref__"), .none]), #[]⟩),
  (212, cO "__init__" "Branch.__init__" 687 113 4 207 true 694),
  (213, fO "__init__" "Branch.__init__" (nth (clsBody (nth pB 70)) 0) "wasmcore.lexer" 632 212),
  (219, cO "head" "Branch.head" 697 118 1 214 true 702),
  (220, fO "head" "Branch.head" (nth (clsBody (nth pB 70)) 1) "wasmcore.lexer" 632 219),
  (221, ⟨(.type "tuple"), none, (.seq #[(.str "column" 705), (.str "items" 706), (.str "row" 707)] 0), #[]⟩),
  (222, ⟨(.type "dict"), none, (.dict #[kd P "__module__" 682 (.str "wasmcore.lexer" 632), kd P "__firstlineno__" 686 (.int 111 685), kd P "__init__" 696 (.ref 213), kd P "head" 704 (.ref 220), kd P "__static_attributes__" 708 (.ref 221), kd P "__dict__" 710 (.ref 224), kd P "__weakref__" 712 (.ref 225), kd P "__doc__" 713 .none] 4), #[]⟩),
  (223, ⟨(.type "type"), none, (.cls ⟨"Branch", [(.type "object")], [(.ref 223), (.type "object")], 222, "Branch", true, [], [], false, none, false⟩), #[none, none, (.some (.str "Branch" 675)), (.some (.str "Branch" 683)), (.some (.builtin "object.__new__")), (.some (.bool true))]⟩),
  (224, ⟨(.type "getset_descriptor"), none, (.fields #[(.str "__dict__" 709), (.ref 223), (.builtin "function.__dict__"), (.builtin "function.__dict__#set")]), #[]⟩),
  (225, ⟨(.type "getset_descriptor"), none, (.fields #[(.str "__weakref__" 711), (.ref 223), (.builtin "ExceptionGroup.__weakref__"), .none]), #[]⟩),
  (228, ⟨(.type "tuple"), none, (.seq #[.none] 0), #[]⟩),
  (234, cO "is_token" "is_token" 716 121 3 229 true 722),
  (235, ⟨(.type "function"), none, (.func ⟨"is_token", "is_token", (fArgs (nth pB 71)), .stmts (fBody (nth pB 71)), fScope (nth pB 71), 3, [], (.ref 228), .none, .none, (.str "wasmcore.lexer" 632), none, (.ref 234), .none, 0⟩), #[]⟩),
  (255, cO "u32_of" "u32_of" 747 144 1 250 true 751),
  (256, fO "u32_of" "u32_of" (nth pB 74) "wasmcore.lexer" 632 255),
  (257, ⟨(.type "tuple"), none, (.seq #[(.str "eqz" 756), (.str "eq" 757), (.str "ne" 758), (.str "lt_s" 759), (.str "lt_u" 760), (.str "gt_s" 761), (.str "gt_u" 762), (.str "le_s" 763), (.str "le_u" 764), (.str "ge_s" 765), (.str "ge_u" 766)] 0), #[]⟩),
  (258, ⟨(.type "tuple"), none, (.seq #[(.str "clz" 768), (.str "ctz" 769), (.str "popcnt" 770), (.str "add" 771), (.str "sub" 772), (.str "mul" 773), (.str "div_s" 774), (.str "div_u" 775), (.str "rem_s" 776), (.str "rem_u" 777), (.str "and" 778), (.str "or" 779), (.str "xor" 780), (.str "shl" 781), (.str "shr_s" 782), (.str "shr_u" 783), (.str "rotl" 784), (.str "rotr" 785)] 0), #[]⟩),
  (259, ⟨(.type "tuple"), none, (.seq #[(.int 69 787), (.str "i32." 788), (.ref 257)] 0), #[]⟩),
  (260, ⟨(.type "tuple"), none, (.seq #[(.int 80 789), (.str "i64." 790), (.ref 257)] 0), #[]⟩),
  (261, ⟨(.type "tuple"), none, (.seq #[(.int 103 791), (.str "i32." 792), (.ref 258)] 0), #[]⟩),
  (262, ⟨(.type "tuple"), none, (.seq #[(.int 121 793), (.str "i64." 794), (.ref 258)] 0), #[]⟩),
  (263, ⟨(.type "tuple"), none, (.seq #[(.ref 259), (.ref 260), (.ref 261), (.ref 262)] 0), #[]⟩),
  (264, ⟨(.type "dict"), none, (.dict #[⟨32, (.int 32 796), (.str "local.get" 797)⟩, ⟨65, (.int 65 799), (.str "i32.const" 800)⟩, ⟨33, (.int 33 802), (.str "local.set" 803)⟩, ⟨34, (.int 34 805), (.str "local.tee" 806)⟩, ⟨66, (.int 66 808), (.str "i64.const" 809)⟩, ⟨2, (.int 2 811), (.str "block" 812)⟩, ⟨3, (.int 3 814), (.str "loop" 815)⟩, ⟨4, (.int 4 817), (.str "if" 818)⟩, ⟨5, (.int 5 820), (.str "else" 821)⟩, ⟨11, (.int 11 823), (.str "end" 824)⟩, ⟨12, (.int 12 826), (.str "br" 827)⟩, ⟨13, (.int 13 829), (.str "br_if" 830)⟩, ⟨14, (.int 14 832), (.str "br_table" 833)⟩, ⟨15, (.int 15 835), (.str "return" 836)⟩, ⟨16, (.int 16 838), (.str "call" 839)⟩, ⟨17, (.int 17 841), (.str "call_indirect" 842)⟩, ⟨26, (.int 26 844), (.str "drop" 845)⟩, ⟨27, (.int 27 847), (.str "select" 848)⟩, ⟨28, (.int 28 850), (.str "select" 851)⟩, ⟨0, (.int 0 853), (.str "unreachable" 854)⟩, ⟨1, (.int 1 856), (.str "nop" 857)⟩, ⟨18, (.int 18 859), (.str "return_call" 860)⟩, ⟨19, (.int 19 862), (.str "return_call_indirect" 863)⟩, ⟨35, (.int 35 865), (.str "global.get" 866)⟩, ⟨36, (.int 36 868), (.str "global.set" 869)⟩, ⟨37, (.int 37 871), (.str "table.get" 872)⟩, ⟨38, (.int 38 874), (.str "table.set" 875)⟩, ⟨40, (.int 40 877), (.str "i32.load" 878)⟩, ⟨41, (.int 41 880), (.str "i64.load" 881)⟩, ⟨44, (.int 44 883), (.str "i32.load8_s" 884)⟩, ⟨45, (.int 45 886), (.str "i32.load8_u" 887)⟩, ⟨46, (.int 46 889), (.str "i32.load16_s" 890)⟩, ⟨47, (.int 47 892), (.str "i32.load16_u" 893)⟩, ⟨48, (.int 48 895), (.str "i64.load8_s" 896)⟩, ⟨49, (.int 49 898), (.str "i64.load8_u" 899)⟩, ⟨50, (.int 50 901), (.str "i64.load16_s" 902)⟩, ⟨51, (.int 51 904), (.str "i64.load16_u" 905)⟩, ⟨52, (.int 52 907), (.str "i64.load32_s" 908)⟩, ⟨53, (.int 53 910), (.str "i64.load32_u" 911)⟩, ⟨54, (.int 54 913), (.str "i32.store" 914)⟩, ⟨55, (.int 55 916), (.str "i64.store" 917)⟩, ⟨58, (.int 58 919), (.str "i32.store8" 920)⟩, ⟨59, (.int 59 922), (.str "i32.store16" 923)⟩, ⟨60, (.int 60 925), (.str "i64.store8" 926)⟩, ⟨61, (.int 61 928), (.str "i64.store16" 929)⟩, ⟨62, (.int 62 931), (.str "i64.store32" 932)⟩, ⟨63, (.int 63 934), (.str "memory.size" 935)⟩, ⟨64, (.int 64 937), (.str "memory.grow" 938)⟩, ⟨167, (.int 167 940), (.str "i32.wrap_i64" 941)⟩, ⟨172, (.int 172 943), (.str "i64.extend_i32_s" 944)⟩, ⟨173, (.int 173 946), (.str "i64.extend_i32_u" 947)⟩, ⟨192, (.int 192 949), (.str "i32.extend8_s" 950)⟩, ⟨193, (.int 193 952), (.str "i32.extend16_s" 953)⟩, ⟨194, (.int 194 955), (.str "i64.extend8_s" 956)⟩, ⟨195, (.int 195 958), (.str "i64.extend16_s" 959)⟩, ⟨196, (.int 196 961), (.str "i64.extend32_s" 962)⟩, ⟨208, (.int 208 964), (.str "ref.null" 965)⟩, ⟨209, (.int 209 967), (.str "ref.is_null" 968)⟩, ⟨210, (.int 210 970), (.str "ref.func" 971)⟩, ⟨64520, (.int 64520 973), (.str "memory.init" 974)⟩, ⟨64521, (.int 64521 976), (.str "data.drop" 977)⟩, ⟨64522, (.int 64522 979), (.str "memory.copy" 980)⟩, ⟨64523, (.int 64523 982), (.str "memory.fill" 983)⟩, ⟨64524, (.int 64524 985), (.str "table.init" 986)⟩, ⟨64525, (.int 64525 988), (.str "elem.drop" 989)⟩, ⟨64526, (.int 64526 991), (.str "table.copy" 992)⟩, ⟨64527, (.int 64527 994), (.str "table.grow" 995)⟩, ⟨64528, (.int 64528 997), (.str "table.size" 998)⟩, ⟨64529, (.int 64529 1000), (.str "table.fill" 1001)⟩] 69), #[]⟩),
  (274, cO "code_of" "code_of" 1004 155 1 269 true 1012),
  (275, fO "code_of" "code_of" (nth pB 80) "wasmcore.opnames" 754 274),
  (281, cO "is_left_word" "is_left_word" 1015 163 1 276 true 1019),
  (282, fO "is_left_word" "is_left_word" (nth pB 81) "wasmcore.opnames" 754 281),
  (283, ⟨(.type "tuple"), none, (.seq #[(.str "block" 1026), (.str "loop" 1027), (.str "if" 1028)] 0), #[]⟩),
  (284, ⟨(.type "tuple"), none, (.seq #[(.str "type" 1030), (.str "param" 1031), (.str "result" 1032), (.str "local" 1033), (.str "then" 1034), (.str "else" 1035), (.str "end" 1036), (.str "item" 1037), (.str "offset" 1038), (.str "mut" 1039), (.str "func" 1040), (.str "extern" 1041), (.str "table" 1042), (.str "memory" 1043), (.str "global" 1044), (.str "elem" 1045), (.str "data" 1046), (.str "\x69mport" 1047), (.str "export" 1048), (.str "start" 1049), (.str "module" 1050), (.str "declare" 1051), (.str "i32" 1052), (.str "i64" 1053), (.str "funcref" 1054), (.str "externref" 1055)] 0), #[]⟩),
  (285, ⟨(.type "dict"), none, (.dict #[kd P "func" 1057 (.str "func" 1058), kd P "global" 1059 (.str "global" 1060), kd P "data" 1061 (.str "data" 1062), kd P "elem" 1063 (.str "elem" 1064), kd P "memory_init" 1065 (.str "data" 1066)] 5), #[]⟩),
  (291, cO "refuse" "refuse" 1073 172 2 286 true 1078),
  (292, fO "refuse" "refuse" (nth pB 87) "wasmcore.textbody" 1022 291),
  (298, cO "head_of" "head_of" 1081 176 1 293 true 1085),
  (299, fO "head_of" "head_of" (nth pB 88) "wasmcore.textbody" 1022 298),
  (305, cO "is_other_word" "is_other_word" 1088 178 1 300 true 1092),
  (306, fO "is_other_word" "is_other_word" (nth pB 89) "wasmcore.textbody" 1022 305),
  (324, cO "has_index" "has_index" 1109 191 2 319 true 1114),
  (325, fO "has_index" "has_index" (nth pB 92) "wasmcore.textbody" 1022 324),
  (331, cO "index_at" "index_at" 1117 193 3 326 true 1123),
  (332, fO "index_at" "index_at" (nth pB 93) "wasmcore.textbody" 1022 331),
  (366, cO "__init__" "Label.__init__" 1164 217 4 361 true 1171),
  (367, fO "__init__" "Label.__init__" (nth (clsBody (nth pB 97)) 0) "wasmcore.textbody" 1022 366),
  (368, ⟨(.type "tuple"), none, (.seq #[(.str "has_else" 1174), (.str "name" 1175), (.str "token" 1176), (.str "word" 1177)] 0), #[]⟩),
  (369, ⟨(.type "dict"), none, (.dict #[kd P "__module__" 1159 (.str "wasmcore.textbody" 1022), kd P "__firstlineno__" 1163 (.int 215 1162), kd P "__init__" 1173 (.ref 367), kd P "__static_attributes__" 1178 (.ref 368), kd P "__dict__" 1180 (.ref 371), kd P "__weakref__" 1182 (.ref 372), kd P "__doc__" 1183 .none] 4), #[]⟩),
  (370, ⟨(.type "type"), none, (.cls ⟨"Label", [(.type "object")], [(.ref 370), (.type "object")], 369, "Label", true, [], [], false, none, false⟩), #[none, none, (.some (.str "Label" 1152)), (.some (.str "Label" 1160)), (.some (.builtin "object.__new__")), (.some (.bool true))]⟩),
  (371, ⟨(.type "getset_descriptor"), none, (.fields #[(.str "__dict__" 1179), (.ref 370), (.builtin "function.__dict__"), (.builtin "function.__dict__#set")]), #[]⟩),
  (372, ⟨(.type "getset_descriptor"), none, (.fields #[(.str "__weakref__" 1181), (.ref 370), (.builtin "ExceptionGroup.__weakref__"), .none]), #[]⟩),
  (387, cO "__init__" "ItemRun.__init__" 1198 224 4 382 true 1205),
  (388, fO "__init__" "ItemRun.__init__" (nth (clsBody (nth pB 98)) 0) "wasmcore.textbody" 1022 387),
  (389, ⟨(.type "tuple"), none, (.seq #[(.str "at" 1208), (.str "base" 1209), (.str "is_folded" 1210), (.str "items" 1211)] 0), #[]⟩),
  (390, ⟨(.type "dict"), none, (.dict #[kd P "__module__" 1193 (.str "wasmcore.textbody" 1022), kd P "__firstlineno__" 1197 (.int 222 1196), kd P "__init__" 1207 (.ref 388), kd P "__static_attributes__" 1212 (.ref 389), kd P "__dict__" 1214 (.ref 392), kd P "__weakref__" 1216 (.ref 393), kd P "__doc__" 1217 .none] 4), #[]⟩),
  (391, ⟨(.type "type"), none, (.cls ⟨"ItemRun", [(.type "object")], [(.ref 391), (.type "object")], 390, "ItemRun", true, [], [], false, none, false⟩), #[none, none, (.some (.str "ItemRun" 1186)), (.some (.str "ItemRun" 1194)), (.some (.builtin "object.__new__")), (.some (.bool true))]⟩),
  (392, ⟨(.type "getset_descriptor"), none, (.fields #[(.str "__dict__" 1213), (.ref 391), (.builtin "function.__dict__"), (.builtin "function.__dict__#set")]), #[]⟩),
  (393, ⟨(.type "getset_descriptor"), none, (.fields #[(.str "__weakref__" 1215), (.ref 391), (.builtin "ExceptionGroup.__weakref__"), .none]), #[]⟩),
  (401, cO "run_task" "run_task" 1220 229 3 396 true 1226),
  (402, fO "run_task" "run_task" (nth pB 99) "wasmcore.textbody" 1022 401),
  (415, cO "__init__" "BodyReader.__init__" 1241 233 3 410 true 1247),
  (416, fO "__init__" "BodyReader.__init__" (nth (clsBody (nth pB 100)) 0) "wasmcore.textbody" 1022 415),
  (422, cO "read" "BodyReader.read" 1250 240 2 417 true 1255),
  (423, fO "read" "BodyReader.read" (nth (clsBody (nth pB 100)) 1) "wasmcore.textbody" 1022 422),
  (429, cO "step" "BodyReader.step" 1258 247 2 424 true 1265),
  (430, fO "step" "BodyReader.step" (nth (clsBody (nth pB 100)) 2) "wasmcore.textbody" 1022 429),
  (436, cO "run" "BodyReader.run" 1268 258 2 431 true 1274),
  (437, fO "run" "BodyReader.run" (nth (clsBody (nth pB 100)) 3) "wasmcore.textbody" 1022 436),
  (443, cO "open_block" "BodyReader.open_block" 1277 275 3 438 true 1283),
  (444, fO "open_block" "BodyReader.open_block" (nth (clsBody (nth pB 100)) 4) "wasmcore.textbody" 1022 443),
  (450, cO "close_block" "BodyReader.close_block" 1286 279 1 445 true 1290),
  (451, fO "close_block" "BodyReader.close_block" (nth (clsBody (nth pB 100)) 5) "wasmcore.textbody" 1022 450),
  (457, cO "plain" "BodyReader.plain" 1293 283 3 452 true 1304),
  (458, fO "plain" "BodyReader.plain" (nth (clsBody (nth pB 100)) 6) "wasmcore.textbody" 1022 457),
  (464, cO "plain_end" "BodyReader.plain_end" 1307 296 4 459 true 1315),
  (465, fO "plain_end" "BodyReader.plain_end" (nth (clsBody (nth pB 100)) 7) "wasmcore.textbody" 1022 464),
  (485, cO "label_told" "BodyReader.label_told" 1348 352 4 480 true 1355),
  (486, fO "label_told" "BodyReader.label_told" (nth (clsBody (nth pB 100)) 10) "wasmcore.textbody" 1022 485),
  (492, cO "block_kind" "BodyReader.block_kind" 1358 357 3 487 true 1369),
  (493, fO "block_kind" "BodyReader.block_kind" (nth (clsBody (nth pB 100)) 11) "wasmcore.textbody" 1022 492),
  (506, cO "instruction" "BodyReader.instruction" 1384 379 4 501 true 1394),
  (507, fO "instruction" "BodyReader.instruction" (nth (clsBody (nth pB 100)) 13) "wasmcore.textbody" 1022 506),
  (520, cO "inner" "BodyReader.inner" 1408 406 6 515 true 1421),
  (521, fO "inner" "BodyReader.inner" (nth (clsBody (nth pB 100)) 15) "wasmcore.textbody" 1022 520),
  (534, cO "label" "BodyReader.label" 1432 430 2 529 true 1438),
  (535, fO "label" "BodyReader.label" (nth (clsBody (nth pB 100)) 17) "wasmcore.textbody" 1022 534),
  (560, cO "select" "BodyReader.select" 1472 477 3 555 true 1480),
  (561, fO "select" "BodyReader.select" (nth (clsBody (nth pB 100)) 21) "wasmcore.textbody" 1022 560),
  (562, ⟨(.type "tuple"), none, (.seq #[(.str "body" 1483), (.str "labels" 1484), (.str "local_ids" 1485), (.str "spaces" 1486), (.str "tasks" 1487)] 0), #[]⟩),
  (563, ⟨(.type "dict"), none, (.dict #[kd P "__module__" 1236 (.str "wasmcore.textbody" 1022), kd P "__firstlineno__" 1240 (.int 231 1239), kd P "__init__" 1249 (.ref 416), kd P "read" 1257 (.ref 423), kd P "step" 1267 (.ref 430), kd P "run" 1276 (.ref 437), kd P "open_block" 1285 (.ref 444), kd P "close_block" 1292 (.ref 451), kd P "plain" 1306 (.ref 458), kd P "plain_end" 1317 (.ref 465), kd P "folded" 1332 (.ref 472), kd P "folded_if" 1347 (.ref 479), kd P "label_told" 1357 (.ref 486), kd P "block_kind" 1371 (.ref 493), kd P "type_told" 1383 (.ref 500), kd P "instruction" 1396 (.ref 507), kd P "index" 1407 (.ref 514), kd P "inner" 1423 (.ref 521), kd P "local" 1431 (.ref 528), kd P "label" 1440 (.ref 535), kd P "of_tables" 1446 (.ref 540), kd P "memarg" 1458 (.ref 547), kd P "constant" 1471 (.ref 554), kd P "select" 1482 (.ref 561), kd P "__static_attributes__" 1488 (.ref 562), kd P "__dict__" 1490 (.ref 565), kd P "__weakref__" 1492 (.ref 566), kd P "__doc__" 1493 .none] 4), #[]⟩),
  (564, ⟨(.type "type"), none, (.cls ⟨"BodyReader", [(.type "object")], [(.ref 564), (.type "object")], 563, "BodyReader", true, [], [], false, none, false⟩), #[none, none, (.some (.str "BodyReader" 1229)), (.some (.str "BodyReader" 1237)), (.some (.builtin "object.__new__")), (.some (.bool true))]⟩),
  (565, ⟨(.type "getset_descriptor"), none, (.fields #[(.str "__dict__" 1489), (.ref 564), (.builtin "function.__dict__"), (.builtin "function.__dict__#set")]), #[]⟩),
  (566, ⟨(.type "getset_descriptor"), none, (.fields #[(.str "__weakref__" 1491), (.ref 564), (.builtin "ExceptionGroup.__weakref__"), .none]), #[]⟩),
  (574, cO "read_body" "read_body" 1496 486 3 569 true 1502),
  (575, fO "read_body" "read_body" (nth pB 101) "wasmcore.textbody" 1022 574),
  (581, cO "_law_any" "_law_any" 1507 489 0 576 true 1512),
  (582, fO "_law_any" "_law_any" (nth pB 103) "law_nm0158_02" 1505 581),
  (586, cO "_law_goal" "_law_goal" 1515 493 2 583 false 1518),
  (587, fO "_law_goal" "_law_goal" (nth pB 104) "law_nm0158_02" 1505 586),
  (591, cO "_law_step" "_law_step" 1521 498 2 588 false 1524),
  (592, fO "_law_step" "_law_step" (nth pB 105) "law_nm0158_02" 1505 591),
  (598, cO "_law_texts" "_law_texts" 1527 514 1 593 true 1534),
  (599, fO "_law_texts" "_law_texts" (nth pB 106) "law_nm0158_02" 1505 598),
  (605, cO "_law_sort" "_law_sort" 1537 519 1 600 true 1541),
  (606, fO "_law_sort" "_law_sort" (nth pB 107) "law_nm0158_02" 1505 605),
  (612, cO "_law_token" "_law_token" 1544 525 2 607 true 1550),
  (613, fO "_law_token" "_law_token" (nth pB 108) "law_nm0158_02" 1505 612),
  (619, cO "_law_no" "_law_no" 1553 528 2 614 true 1558),
  (620, fO "_law_no" "_law_no" (nth pB 109) "law_nm0158_02" 1505 619),
  (626, cO "_law_label" "_law_label" 1561 530 3 621 true 1568),
  (627, fO "_law_label" "_law_label" (nth pB 110) "law_nm0158_02" 1505 626),
  (631, cO "_law_branch" "_law_branch" 1571 539 3 628 false 1574),
  (632, fO "_law_branch" "_law_branch" (nth pB 111) "law_nm0158_02" 1505 631),
  (636, cO "_law_due" "_law_due" 1577 551 1 633 false 1580),
  (637, fO "_law_due" "_law_due" (nth pB 112) "law_nm0158_02" 1505 636),
  (641, cO "law" "law" 1583 589 1 638 false 1586),
  (642, fO "law" "law" (nth pB 113) "law_nm0158_02" 1505 641)]
noncomputable def clsL : List (Addr × List Str) := [(195, ["sort", "text", "value", "row", "column"]), (223, ["items", "row", "column"]), (391, ["items", "at", "is_folded", "base"]), (370, ["name", "word", "token", "has_else"]), (564, ["spaces", "local_ids", "body", "labels", "tasks"])]
structure Cx (G : Gd) : Prop where
  ok : G.Ok
  k : (KK G.P).In G.base
  cls : G.cls = clsL
section
variable {G : Gd}
noncomputable def v_KIND_NAMES : V := .idc ((-1) :: (-2) :: (-16) :: (-17) :: []) (.str "i32" :: .str "i64" :: .str "funcref" :: .str "externref" :: [])
noncomputable def v_LEFT_NAMES : V := .idc ((-3) :: (-4) :: (-5) :: []) (.str "f32" :: .str "f64" :: .str "v128" :: [])
noncomputable def v_HEAP_NAMES : V := .idc ((-16) :: (-17) :: []) (.str "func" :: .str "extern" :: [])
noncomputable def v_LOADS : V := .idc (40 :: 41 :: 44 :: 45 :: 46 :: 47 :: 48 :: 49 :: 50 :: 51 :: 52 :: 53 :: []) (.tup [.int (-1), .int 4, .int 0] :: .tup [.int (-2), .int 8, .int 0] :: .tup [.int (-1), .int 1, .int 1] :: .tup [.int (-1), .int 1, .int 0] :: .tup [.int (-1), .int 2, .int 1] :: .tup [.int (-1), .int 2, .int 0] :: .tup [.int (-2), .int 1, .int 1] :: .tup [.int (-2), .int 1, .int 0] :: .tup [.int (-2), .int 2, .int 1] :: .tup [.int (-2), .int 2, .int 0] :: .tup [.int (-2), .int 4, .int 1] :: .tup [.int (-2), .int 4, .int 0] :: [])
noncomputable def v_STORES : V := .idc (54 :: 55 :: 58 :: 59 :: 60 :: 61 :: 62 :: []) (.tup [.int (-1), .int 4] :: .tup [.int (-2), .int 8] :: .tup [.int (-1), .int 1] :: .tup [.int (-1), .int 2] :: .tup [.int (-2), .int 1] :: .tup [.int (-2), .int 2] :: .tup [.int (-2), .int 4] :: [])
noncomputable def v_FORMS : V := .idc (0 :: 1 :: 2 :: 3 :: 4 :: 5 :: 11 :: 12 :: 13 :: 14 :: 15 :: 16 :: 17 :: 18 :: 19 :: 26 :: 27 :: 28 :: 32 :: 33 :: 34 :: 35 :: 36 :: 37 :: 38 :: 63 :: 64 :: 65 :: 66 :: 208 :: 209 :: 210 :: 64520 :: 64521 :: 64522 :: 64523 :: 64524 :: 64525 :: 64526 :: 64527 :: 64528 :: 64529 :: []) (.str "none" :: .str "none" :: .str "block" :: .str "block" :: .str "block" :: .str "none" :: .str "none" :: .str "label" :: .str "label" :: .str "labels" :: .str "none" :: .str "func" :: .str "indirect" :: .str "func" :: .str "indirect" :: .str "none" :: .str "none" :: .str "kinds" :: .str "local" :: .str "local" :: .str "local" :: .str "global" :: .str "global" :: .str "table" :: .str "table" :: .str "memory" :: .str "memory" :: .str "i32" :: .str "i64" :: .str "refkind" :: .str "none" :: .str "func" :: .str "memory_init" :: .str "data" :: .str "two_memories" :: .str "memory" :: .str "table_init" :: .str "elem" :: .str "table_copy" :: .str "table" :: .str "table" :: .str "table" :: [])
noncomputable def v_NUMBERS : V := .tup [.tup [.int 69, .int 69, .tup [.int (-1)], .tup [.int (-1)]], .tup [.int 70, .int 79, .tup [.int (-1), .int (-1)], .tup [.int (-1)]], .tup [.int 80, .int 80, .tup [.int (-2)], .tup [.int (-1)]], .tup [.int 81, .int 90, .tup [.int (-2), .int (-2)], .tup [.int (-1)]], .tup [.int 103, .int 105, .tup [.int (-1)], .tup [.int (-1)]], .tup [.int 106, .int 120, .tup [.int (-1), .int (-1)], .tup [.int (-1)]], .tup [.int 121, .int 123, .tup [.int (-2)], .tup [.int (-2)]], .tup [.int 124, .int 138, .tup [.int (-2), .int (-2)], .tup [.int (-2)]], .tup [.int 167, .int 167, .tup [.int (-2)], .tup [.int (-1)]], .tup [.int 172, .int 173, .tup [.int (-1)], .tup [.int (-2)]], .tup [.int 192, .int 193, .tup [.int (-1)], .tup [.int (-1)]], .tup [.int 194, .int 196, .tup [.int (-2)], .tup [.int (-2)]]]
noncomputable def v_ROWS : V := .tup [.tup [.int 69, .str "i32.", .tup [.str "eqz", .str "eq", .str "ne", .str "lt_s", .str "lt_u", .str "gt_s", .str "gt_u", .str "le_s", .str "le_u", .str "ge_s", .str "ge_u"]], .tup [.int 80, .str "i64.", .tup [.str "eqz", .str "eq", .str "ne", .str "lt_s", .str "lt_u", .str "gt_s", .str "gt_u", .str "le_s", .str "le_u", .str "ge_s", .str "ge_u"]], .tup [.int 103, .str "i32.", .tup [.str "clz", .str "ctz", .str "popcnt", .str "add", .str "sub", .str "mul", .str "div_s", .str "div_u", .str "rem_s", .str "rem_u", .str "and", .str "or", .str "xor", .str "shl", .str "shr_s", .str "shr_u", .str "rotl", .str "rotr"]], .tup [.int 121, .str "i64.", .tup [.str "clz", .str "ctz", .str "popcnt", .str "add", .str "sub", .str "mul", .str "div_s", .str "div_u", .str "rem_s", .str "rem_u", .str "and", .str "or", .str "xor", .str "shl", .str "shr_s", .str "shr_u", .str "rotl", .str "rotr"]]]
noncomputable def v_NAMES : V := .idc (32 :: 65 :: 33 :: 34 :: 66 :: 2 :: 3 :: 4 :: 5 :: 11 :: 12 :: 13 :: 14 :: 15 :: 16 :: 17 :: 26 :: 27 :: 28 :: 0 :: 1 :: 18 :: 19 :: 35 :: 36 :: 37 :: 38 :: 40 :: 41 :: 44 :: 45 :: 46 :: 47 :: 48 :: 49 :: 50 :: 51 :: 52 :: 53 :: 54 :: 55 :: 58 :: 59 :: 60 :: 61 :: 62 :: 63 :: 64 :: 167 :: 172 :: 173 :: 192 :: 193 :: 194 :: 195 :: 196 :: 208 :: 209 :: 210 :: 64520 :: 64521 :: 64522 :: 64523 :: 64524 :: 64525 :: 64526 :: 64527 :: 64528 :: 64529 :: []) (.str "local.get" :: .str "i32.const" :: .str "local.set" :: .str "local.tee" :: .str "i64.const" :: .str "block" :: .str "loop" :: .str "if" :: .str "else" :: .str "end" :: .str "br" :: .str "br_if" :: .str "br_table" :: .str "return" :: .str "call" :: .str "call_indirect" :: .str "drop" :: .str "select" :: .str "select" :: .str "unreachable" :: .str "nop" :: .str "return_call" :: .str "return_call_indirect" :: .str "global.get" :: .str "global.set" :: .str "table.get" :: .str "table.set" :: .str "i32.load" :: .str "i64.load" :: .str "i32.load8_s" :: .str "i32.load8_u" :: .str "i32.load16_s" :: .str "i32.load16_u" :: .str "i64.load8_s" :: .str "i64.load8_u" :: .str "i64.load16_s" :: .str "i64.load16_u" :: .str "i64.load32_s" :: .str "i64.load32_u" :: .str "i32.store" :: .str "i64.store" :: .str "i32.store8" :: .str "i32.store16" :: .str "i64.store8" :: .str "i64.store16" :: .str "i64.store32" :: .str "memory.size" :: .str "memory.grow" :: .str "i32.wrap_i64" :: .str "i64.extend_i32_s" :: .str "i64.extend_i32_u" :: .str "i32.extend8_s" :: .str "i32.extend16_s" :: .str "i64.extend8_s" :: .str "i64.extend16_s" :: .str "i64.extend32_s" :: .str "ref.null" :: .str "ref.is_null" :: .str "ref.func" :: .str "memory.init" :: .str "data.drop" :: .str "memory.copy" :: .str "memory.fill" :: .str "table.init" :: .str "elem.drop" :: .str "table.copy" :: .str "table.grow" :: .str "table.size" :: .str "table.fill" :: [])
noncomputable def v_BLOCK_WORDS : V := .tup [.str "block", .str "loop", .str "if"]
noncomputable def v_OTHER_WORDS : V := .tup [.str "type", .str "param", .str "result", .str "local", .str "then", .str "else", .str "end", .str "item", .str "offset", .str "mut", .str "func", .str "extern", .str "table", .str "memory", .str "global", .str "elem", .str "data", .str "\x69mport", .str "export", .str "start", .str "module", .str "declare", .str "i32", .str "i64", .str "funcref", .str "externref"]
noncomputable def gTab : List (Str × V) := ("KIND_NAMES", v_KIND_NAMES) :: ("LEFT_NAMES", v_LEFT_NAMES) :: ("HEAP_NAMES", v_HEAP_NAMES) :: ("LOADS", v_LOADS) :: ("STORES", v_STORES) :: ("FORMS", v_FORMS) :: ("NUMBERS", v_NUMBERS) :: ("ROWS", v_ROWS) :: ("NAMES", v_NAMES) :: ("BLOCK_WORDS", v_BLOCK_WORDS) :: ("OTHER_WORDS", v_OTHER_WORDS) :: ("I32", .int (-1)) :: ("I64", .int (-2)) :: ("FUNCREF", .int (-16)) :: ("EXTERNREF", .int (-17)) :: ("EMPTY", .int (-64)) :: ("BLOCK", .int 2) :: ("IF", .int 4) :: ("ELSE", .int 5) :: ("END", .int 11) :: ("SELECT", .int 27) :: ("SELECT_KINDS", .int 28) :: ("MOST_COUNT", .int 4294967295) :: ("DIGITS", .str "0123456789") :: ("HEX_DIGITS", .str "0123456789abcdefABCDEF") :: ("kind_of", .ref 24) :: ("is_left_name", .ref 31) :: ("heap_of", .ref 38) :: ("number_kind", .ref 106) :: ("form_of", .ref 113) :: ("natural", .ref 120) :: ("WasmFault", .ref 137) :: ("BadText", .ref 157) :: ("LeftOut", .ref 176) :: ("Token", .ref 195) :: ("Branch", .ref 223) :: ("is_token", .ref 235) :: ("whole_of", .ref 242) :: ("int_of", .ref 249) :: ("u32_of", .ref 256) :: ("code_of", .ref 275) :: ("is_left_word", .ref 282) :: ("refuse", .ref 292) :: ("head_of", .ref 299) :: ("is_other_word", .ref 306) :: ("value_kind", .ref 313) :: ("kinds_in", .ref 318) :: ("has_index", .ref 325) :: ("index_at", .ref 332) :: ("word_at", .ref 339) :: ("count_of", .ref 346) :: ("exponent_of", .ref 353) :: ("Label", .ref 370) :: ("ItemRun", .ref 391) :: ("run_task", .ref 402) :: ("BodyReader", .ref 564) :: ("read_body", .ref 575) :: ("_law_any", .ref 582) :: ("_law_goal", .ref 587) :: ("_law_step", .ref 592) :: ("_law_texts", .ref 599) :: ("_law_sort", .ref 606) :: ("_law_token", .ref 613) :: ("_law_no", .ref 620) :: ("_law_label", .ref 627) :: ("_law_branch", .ref 632) :: ("_law_due", .ref 637) :: ("law", .ref 642) :: []
theorem gAll (P : Params) : (gTab.all fun p => globB (KK P) p.1 p.2) = true := by kernel_rfl
theorem gAt (C : Cx G) (i : Nat) {x : Str} {v : V} (h : gTab[i]? = some (x, v)) : Glob G x v := globOf C.ok C.k (List.all_eq_true.mp (gAll G.P) _ (List.mem_of_getElem? h))
theorem g_KIND_NAMES (C : Cx G) : Glob G "KIND_NAMES" (v_KIND_NAMES) := gAt C 0 rfl
theorem g_LEFT_NAMES (C : Cx G) : Glob G "LEFT_NAMES" (v_LEFT_NAMES) := gAt C 1 rfl
theorem g_HEAP_NAMES (C : Cx G) : Glob G "HEAP_NAMES" (v_HEAP_NAMES) := gAt C 2 rfl
theorem g_LOADS (C : Cx G) : Glob G "LOADS" (v_LOADS) := gAt C 3 rfl
theorem g_STORES (C : Cx G) : Glob G "STORES" (v_STORES) := gAt C 4 rfl
theorem g_FORMS (C : Cx G) : Glob G "FORMS" (v_FORMS) := gAt C 5 rfl
theorem g_NUMBERS (C : Cx G) : Glob G "NUMBERS" (v_NUMBERS) := gAt C 6 rfl
theorem g_ROWS (C : Cx G) : Glob G "ROWS" (v_ROWS) := gAt C 7 rfl
theorem g_NAMES (C : Cx G) : Glob G "NAMES" (v_NAMES) := gAt C 8 rfl
theorem g_BLOCK_WORDS (C : Cx G) : Glob G "BLOCK_WORDS" (v_BLOCK_WORDS) := gAt C 9 rfl
theorem g_OTHER_WORDS (C : Cx G) : Glob G "OTHER_WORDS" (v_OTHER_WORDS) := gAt C 10 rfl
theorem g_I32 (C : Cx G) : Glob G "I32" (.int (-1)) := gAt C 11 rfl
theorem g_I64 (C : Cx G) : Glob G "I64" (.int (-2)) := gAt C 12 rfl
theorem g_FUNCREF (C : Cx G) : Glob G "FUNCREF" (.int (-16)) := gAt C 13 rfl
theorem g_EXTERNREF (C : Cx G) : Glob G "EXTERNREF" (.int (-17)) := gAt C 14 rfl
theorem g_EMPTY (C : Cx G) : Glob G "EMPTY" (.int (-64)) := gAt C 15 rfl
theorem g_BLOCK (C : Cx G) : Glob G "BLOCK" (.int 2) := gAt C 16 rfl
theorem g_IF (C : Cx G) : Glob G "IF" (.int 4) := gAt C 17 rfl
theorem g_ELSE (C : Cx G) : Glob G "ELSE" (.int 5) := gAt C 18 rfl
theorem g_END (C : Cx G) : Glob G "END" (.int 11) := gAt C 19 rfl
theorem g_SELECT (C : Cx G) : Glob G "SELECT" (.int 27) := gAt C 20 rfl
theorem g_SELECT_KINDS (C : Cx G) : Glob G "SELECT_KINDS" (.int 28) := gAt C 21 rfl
theorem g_MOST_COUNT (C : Cx G) : Glob G "MOST_COUNT" (.int 4294967295) := gAt C 22 rfl
theorem g_DIGITS (C : Cx G) : Glob G "DIGITS" (.str "0123456789") := gAt C 23 rfl
theorem g_HEX_DIGITS (C : Cx G) : Glob G "HEX_DIGITS" (.str "0123456789abcdefABCDEF") := gAt C 24 rfl
theorem g_kind_of (C : Cx G) : Glob G "kind_of" (.ref 24) := gAt C 25 rfl
theorem g_is_left_name (C : Cx G) : Glob G "is_left_name" (.ref 31) := gAt C 26 rfl
theorem g_heap_of (C : Cx G) : Glob G "heap_of" (.ref 38) := gAt C 27 rfl
theorem g_number_kind (C : Cx G) : Glob G "number_kind" (.ref 106) := gAt C 28 rfl
theorem g_form_of (C : Cx G) : Glob G "form_of" (.ref 113) := gAt C 29 rfl
theorem g_natural (C : Cx G) : Glob G "natural" (.ref 120) := gAt C 30 rfl
theorem g_WasmFault (C : Cx G) : Glob G "WasmFault" (.ref 137) := gAt C 31 rfl
theorem g_BadText (C : Cx G) : Glob G "BadText" (.ref 157) := gAt C 32 rfl
theorem g_LeftOut (C : Cx G) : Glob G "LeftOut" (.ref 176) := gAt C 33 rfl
theorem g_Token (C : Cx G) : Glob G "Token" (.ref 195) := gAt C 34 rfl
theorem g_Branch (C : Cx G) : Glob G "Branch" (.ref 223) := gAt C 35 rfl
theorem g_is_token (C : Cx G) : Glob G "is_token" (.ref 235) := gAt C 36 rfl
theorem g_whole_of (C : Cx G) : Glob G "whole_of" (.ref 242) := gAt C 37 rfl
theorem g_int_of (C : Cx G) : Glob G "int_of" (.ref 249) := gAt C 38 rfl
theorem g_u32_of (C : Cx G) : Glob G "u32_of" (.ref 256) := gAt C 39 rfl
theorem g_code_of (C : Cx G) : Glob G "code_of" (.ref 275) := gAt C 40 rfl
theorem g_is_left_word (C : Cx G) : Glob G "is_left_word" (.ref 282) := gAt C 41 rfl
theorem g_refuse (C : Cx G) : Glob G "refuse" (.ref 292) := gAt C 42 rfl
theorem g_head_of (C : Cx G) : Glob G "head_of" (.ref 299) := gAt C 43 rfl
theorem g_is_other_word (C : Cx G) : Glob G "is_other_word" (.ref 306) := gAt C 44 rfl
theorem g_value_kind (C : Cx G) : Glob G "value_kind" (.ref 313) := gAt C 45 rfl
theorem g_kinds_in (C : Cx G) : Glob G "kinds_in" (.ref 318) := gAt C 46 rfl
theorem g_has_index (C : Cx G) : Glob G "has_index" (.ref 325) := gAt C 47 rfl
theorem g_index_at (C : Cx G) : Glob G "index_at" (.ref 332) := gAt C 48 rfl
theorem g_word_at (C : Cx G) : Glob G "word_at" (.ref 339) := gAt C 49 rfl
theorem g_count_of (C : Cx G) : Glob G "count_of" (.ref 346) := gAt C 50 rfl
theorem g_exponent_of (C : Cx G) : Glob G "exponent_of" (.ref 353) := gAt C 51 rfl
theorem g_Label (C : Cx G) : Glob G "Label" (.ref 370) := gAt C 52 rfl
theorem g_ItemRun (C : Cx G) : Glob G "ItemRun" (.ref 391) := gAt C 53 rfl
theorem g_run_task (C : Cx G) : Glob G "run_task" (.ref 402) := gAt C 54 rfl
theorem g_BodyReader (C : Cx G) : Glob G "BodyReader" (.ref 564) := gAt C 55 rfl
theorem g_read_body (C : Cx G) : Glob G "read_body" (.ref 575) := gAt C 56 rfl
theorem g__law_any (C : Cx G) : Glob G "_law_any" (.ref 582) := gAt C 57 rfl
theorem g__law_goal (C : Cx G) : Glob G "_law_goal" (.ref 587) := gAt C 58 rfl
theorem g__law_step (C : Cx G) : Glob G "_law_step" (.ref 592) := gAt C 59 rfl
theorem g__law_texts (C : Cx G) : Glob G "_law_texts" (.ref 599) := gAt C 60 rfl
theorem g__law_sort (C : Cx G) : Glob G "_law_sort" (.ref 606) := gAt C 61 rfl
theorem g__law_token (C : Cx G) : Glob G "_law_token" (.ref 613) := gAt C 62 rfl
theorem g__law_no (C : Cx G) : Glob G "_law_no" (.ref 620) := gAt C 63 rfl
theorem g__law_label (C : Cx G) : Glob G "_law_label" (.ref 627) := gAt C 64 rfl
theorem g__law_branch (C : Cx G) : Glob G "_law_branch" (.ref 632) := gAt C 65 rfl
theorem g__law_due (C : Cx G) : Glob G "_law_due" (.ref 637) := gAt C 66 rfl
theorem g_law (C : Cx G) : Glob G "law" (.ref 642) := gAt C 67 rfl
noncomputable def bTab : List (Str × V) := [("len", .bi "len"), ("isinstance", .bi "isinstance"), ("sum", .bi "sum"), ("range", .ty "range"), ("enumerate", .ty "enumerate"), ("tuple", .ty "tuple"), ("str", .ty "str"), ("int", .ty "int"), ("Exception", .ty "Exception")]
theorem bAll (P : Params) : (bTab.all fun p => bltnB (KK P) p.1 p.2) = true := by kernel_rfl
theorem bAt (C : Cx G) (i : Nat) {x : Str} {v : V} (h : bTab[i]? = some (x, v)) : Bltn G x v := bltnOf C.ok C.k (List.all_eq_true.mp (bAll G.P) _ (List.mem_of_getElem? h))
theorem b_len (C : Cx G) : Bltn G "len" (.bi "len") := bAt C 0 rfl
theorem b_isinstance (C : Cx G) : Bltn G "isinstance" (.bi "isinstance") := bAt C 1 rfl
theorem b_sum (C : Cx G) : Bltn G "sum" (.bi "sum") := bAt C 2 rfl
theorem b_range (C : Cx G) : Bltn G "range" (.ty "range") := bAt C 3 rfl
theorem b_enumerate (C : Cx G) : Bltn G "enumerate" (.ty "enumerate") := bAt C 4 rfl
theorem b_tuple (C : Cx G) : Bltn G "tuple" (.ty "tuple") := bAt C 5 rfl
theorem b_str (C : Cx G) : Bltn G "str" (.ty "str") := bAt C 6 rfl
theorem b_int (C : Cx G) : Bltn G "int" (.ty "int") := bAt C 7 rfl
theorem b_Exception (C : Cx G) : Bltn G "Exception" (.ty "Exception") := bAt C 8 rfl
noncomputable def v_SPACE_OF_FORM : V := .sdc ["func", "global", "data", "elem", "memory_init"] [.str "func", .str "global", .str "data", .str "elem", .str "data"]
theorem g_SPACE_OF_FORM (C : Cx G) : Glob G "SPACE_OF_FORM" v_SPACE_OF_FORM := by
  refine ⟨.ref 285, mg_of C.k C.ok.top.g (by kernel_rfl), fun σ h hs off => ?_⟩
  have e : (KK G.P).lookup 285 = some ⟨.type "dict", none, .dict _ _, #[]⟩ := rfl
  have q := C.k _ _ e
  refine ⟨_, _, _, rfl, ⟨off _ _ q, by decide⟩, hs _ _ q, ?_, ?_⟩
  · exact ⟨_, _, _, rfl, rfl, rfl, fit_of (by kernel_rfl), ⟨_, _, _, rfl, rfl, rfl, fit_of (by kernel_rfl), ⟨_, _, _, rfl, rfl, rfl, fit_of (by kernel_rfl), ⟨_, _, _, rfl, rfl, rfl, fit_of (by kernel_rfl), ⟨_, _, _, rfl, rfl, rfl, fit_of (by kernel_rfl), rfl⟩⟩⟩⟩⟩
  · exact ⟨_, _, rfl, ⟨fit_of (by kernel_rfl), _, rfl⟩, ⟨_, _, rfl, ⟨fit_of (by kernel_rfl), _, rfl⟩, ⟨_, _, rfl, ⟨fit_of (by kernel_rfl), _, rfl⟩, ⟨_, _, rfl, ⟨fit_of (by kernel_rfl), _, rfl⟩, ⟨_, _, rfl, ⟨fit_of (by kernel_rfl), _, rfl⟩, rfl⟩⟩⟩⟩⟩
end
end Mine
end

namespace Mine
theorem ndF {p : Prop} [Decidable p] (h : p) : (!decide p) = false := by rw [decide_eq_true h]; rfl
theorem ndT {p : Prop} [Decidable p] (h : ¬ p) : (!decide p) = true := by rw [decide_eq_false h]; rfl
end Mine
section

section
namespace Mine
theorem nb {b : Bool} (h : b = false) : ¬ b = true := by rw [h]; decide
inductive EqBR (v0 : V) (b : Bool) (Q : V → Store → Prop) (v : V) (σ1 : Store) : Prop | mk (h : v = v0) (q : Q (.bool b) σ1)
abbrev CalXQ (G : Gd) (n : Nat) (f : Value) (x : V) (Q : V → Store → Prop) (X : Exn → Prop) : List V → Store → Prop := fun vs σ2 => CallW G n f (x :: vs) σ2 Q X
noncomputable def fdO (n q : Str) (st : Stmt) (md : Str) (t : Tok) (c : Addr) : FuncData := ⟨n, q, fArgs st, .stmts (fBody st), fScope st, 3, [], .none, .none, .none, .str md t, none, .ref c, .none, 0⟩
theorem fnO {G : Gd} (C : Cx G) {f c a : Addr} {n q md nm : Str} {st : Stmt} {t : Tok} {t1 i : Nat} {line argc : Int} {z : Bool} {ps : List Str} {body : List Stmt} {names : List (Str × NameKind)} {more : List (Str × Const)} (h : (KK G.P).lookup f = some (fO n q st md t c)) (hc : (KK G.P).lookup c = some (cO nm q t1 line argc a z i))
    (hs : fScope st = ⟨.function, names, false, false, more⟩) (hbd : fBody st = body) (hb : ∀ s vals, vals.length = ps.length → G.base.StaysIn s.heap → BindsTo s (fdO n q st md t c) ⟨vals, []⟩ (ps.zip vals)) (nd : ps.Nodup := by decide) : FnAt G f ps body names (fO n q st md t c) (fdO n q st md t c) :=
  ⟨C.k _ _ h, rfl, congrArg FuncBody.stmts hbd, congrArg Scope.names hs, ⟨c, _, _, _, rfl, C.k _ _ hc, rfl, rfl⟩, congrArg Scope.kind hs, congrArg Scope.isCoroutine hs, congrArg Scope.isGenerator hs, rfl, rfl, rfl, hb, nd⟩
section
variable {G : Gd} {md : Md} {loc : Loc} {σ : Store} {X : Exn → Prop}

theorem keepF (C : Cx G) {f : Addr} {c : Value} {d : Option Addr} {fd : FuncData} {sl : Array (Option Value)} (h : (KK G.P).lookup f = some ⟨c, d, .func fd, sl⟩) : KeepAt G (.ref f) := fun hp k => by
  refine ⟨.frame, .inl rfl, (Looks.ld (part := none) (k _ _ (C.k _ _ h))).andThen ?_⟩
  exact .now
/-- a def of the top is called by its name -/
theorem gcall {x : Str} {f : Addr} {px pos : Pos} {es : List Expr} {n : Nat} {Q : V → Store → Prop} (g : Glob G x (.ref f)) (hk : KeepAt G (.ref f)) (hm : md.sc.lookup x = some .globalImplicit) (hmd : n ≤ md.n) (hd : md.hd = none)
    (h : EvsW G md es loc σ (CalQ G n (.ref f) Q X) X) (hx : (x == ("__debug__" : Str)) = false := by decide) (hn : es.all notStar = true := by rfl) : EvW G md (.Call (.Name x px) es [] pos) loc σ Q X :=
  ev_call (fv := .ref f) (ev_global g hm ⟨rfl, rfl⟩ hx) rfl hk hmd hd h hn
theorem bcall {x : Str} {fv : V} {f : Value} {px pos : Pos} {es : List Expr} {Q : V → Store → Prop} (g : Bltn G x fv) (ha : atomV fv = some f) (hk : KeepAt G f) (hm : md.sc.lookup x = some .globalImplicit) (hd : md.hd = none)
    (h : EvsW G md es loc σ (CalQ G 0 f Q X) X) (hx : (x == ("__debug__" : Str)) = false := by decide) (hn : es.all notStar = true := by rfl) : EvW G md (.Call (.Name x px) es [] pos) loc σ Q X :=
  ev_call (ev_builtin g hm ⟨rfl, rfl⟩ hx) ha hk (Nat.zero_le _) hd h hn

theorem e_WF (C : Cx G) : ExcAt G 137 134 ["why"] := ⟨_, C.k, by kernel_rfl⟩
theorem e_BT (C : Cx G) : ExcAt G 157 154 ["why", "row", "column"] := ⟨_, C.k, by kernel_rfl⟩
theorem e_LO (C : Cx G) : ExcAt G 176 173 ["why", "at"] := ⟨_, C.k, by kernel_rfl⟩

theorem c_WF_init (C : Cx G) {D fI : Addr} {own : List Str} {x : Addr} {why : V} {Q : V → Store → Prop} (hx : σ x = some (.exc D none)) (hD : ExcAt G D fI own) (ho : own.contains "why" = true)
    (hq : ∀ dx, σ dx = none → dx ≠ x → Q .none (upd (upd σ dx (.ns ["why"] [why])) x (.exc D (some dx)))) : CallW G 3 (.ref 134) [.ref x, why] σ Q X := by
  refine call_fn (n := 2) (fnO (ps := ["self", "why"]) C rfl rfl rfl rfl (bt2 fun _ _ _ => .of_eq rfl)) (by decide) (by decide) rfl fun L hL => ?_
  have hxL : x ≠ L := by rintro rfl; rw [hL] at hx; cases hx
  refine ex_cons (ex_expr ?_)
  refine ev_method rfl (ev_builtin (b_Exception C) rfl ⟨.builtin "Exception.__init__", [], 0, .exc rfl rfl, keep_builtin _, Nat.zero_le _, evs_cons (ev_local rfl (evs_cons (ev_local rfl (evs_nil ?_))))⟩)
  refine exc_init0 hD (by rw [upd_ne _ _ hxL]; exact hx) ?_
  refine ex_cons (ex_setattr_exc (ev_local rfl (ev_local rfl ⟨x, D, fI, own, none, rfl, by rw [upd_ne _ _ hxL]; exact hx, hD, ho, .none fun dx hdx hne => ?_⟩)))
  refine ex_nil ?_
  have hdL : dx ≠ L := by rintro rfl; rw [upd_eq] at hdx; cases hdx
  have hdx' : σ dx = none := by rw [upd_ne _ _ hdL] at hdx; exact hdx
  show Q .none (era (upd (upd (upd σ L .mark) dx _) x _) L)
  rw [era_comm hxL, era_comm hdL, era_upd hL]
  exact hq dx hdx' hne
end
end Mine
end

section
namespace Mine
section
variable {G : Gd} {md : Md} {loc : Loc} {σ : Store} {X : Exn → Prop}

theorem c_BT_init (C : Cx G) {x : Addr} {why row col : V} {Q : V → Store → Prop} (hx : σ x = some (.exc 157 none))
    (hq : ∀ dx, σ dx = none → dx ≠ x → Q .none (upd (upd σ dx (.ns ["why", "row", "column"] [why, row, col])) x (.exc 157 (some dx)))) : CallC G 5 (.ref 154) [.ref x, why, row, col] σ Q X := by
  refine call_fnC (n := 4) (fnO (ps := ["self", "why", "row", "column"]) C rfl rfl rfl rfl (bt4 fun _ _ _ _ _ => .of_eq rfl)) (by decide) (by decide) rfl fun L hL => ?_
  have hxL : x ≠ L := by rintro rfl; rw [hL] at hx; cases hx
  refine ex_cons (ex_expr ?_)
  refine ev_method rfl (ev_global (g_WasmFault C) rfl ⟨.ref 134, [], 3, .cls 137 134 rfl ⟨_, C.k, by kernel_rfl, by kernel_rfl⟩, keepF C rfl, by decide, evs_cons (ev_local rfl (evs_cons (ev_local rfl (evs_nil ?_))))⟩)
  refine c_WF_init C (D := 157) (by rw [upd_ne _ _ hxL]; exact hx) (e_BT C) (by decide) fun dx hdx hne => ?_
  have hdL : dx ≠ L := by rintro rfl; rw [upd_eq] at hdx; cases hdx
  have hdx' : σ dx = none := by rw [upd_ne _ _ hdL] at hdx; exact hdx
  refine ex_cons (ex_setattr_exc (ev_local rfl (ev_local rfl ⟨x, 157, _, _, some dx, rfl, upd_eq .., e_BT C, by decide, .some _ _ _ ((upd_ne _ _ hne).trans (upd_eq ..)) (by decide) ?_⟩)))
  refine ex_cons (ex_setattr_exc (ev_local rfl (ev_local rfl ⟨x, 157, _, _, some dx, rfl, (upd_ne _ _ hne.symm).trans (upd_eq ..), e_BT C, by decide, .some _ _ _ (upd_eq ..) (by decide) ?_⟩)))
  refine ex_nil ?_
  show Q .none (era (upd (upd (upd (upd (upd σ L .mark) dx _) x _) dx _) dx (.ns ["why", "row", "column"] [why, row, col])) L)
  rw [upd_upd, upd_comm hne.symm, upd_upd, era_comm hxL, era_comm hdL, era_upd hL]
  exact hq dx hdx' hne
theorem c_BT (C : Cx G) {why row col : V} {Q : V → Store → Prop} (hq : ∀ ea dx σ', σ' ea = some (.exc 157 (some dx)) → σ' dx = some (.ns ["why", "row", "column"] [why, row, col]) → σ ea = none → σ dx = none → Q (.ref ea) σ') :
    CallW G 6 (.ref 157) [why, row, col] σ Q X := by
  refine (exc_newC (n := 5) (e_BT C) (by simp) fun x hx => c_BT_init C (upd_eq ..) fun dx hdx hne => ⟨rfl, ?_⟩).w
  have hdx' : σ dx = none := by rw [upd_ne _ _ hne] at hdx; exact hdx
  exact hq x dx _ (upd_eq ..) ((upd_ne _ _ hne).trans (upd_eq ..)) hx hdx'
theorem c_LO_init (C : Cx G) {x : Addr} {why row : V} {Q : V → Store → Prop} (hx : σ x = some (.exc 176 none))
    (hq : ∀ dx, σ dx = none → dx ≠ x → Q .none (upd (upd σ dx (.ns ["why", "at"] [why, row])) x (.exc 176 (some dx)))) : CallC G 5 (.ref 173) [.ref x, why, row] σ Q X := by
  refine call_fnC (n := 4) (fnO (ps := ["self", "why", "at"]) C rfl rfl rfl rfl (bt3 fun _ _ _ _ => .of_eq rfl)) (by decide) (by decide) rfl fun L hL => ?_
  have hxL : x ≠ L := by rintro rfl; rw [hL] at hx; cases hx
  refine ex_cons (ex_expr ?_)
  refine ev_method rfl (ev_global (g_WasmFault C) rfl ⟨.ref 134, [], 3, .cls 137 134 rfl ⟨_, C.k, by kernel_rfl, by kernel_rfl⟩, keepF C rfl, by decide, evs_cons (ev_local rfl (evs_cons (ev_local rfl (evs_nil ?_))))⟩)
  refine c_WF_init C (D := 176) (by rw [upd_ne _ _ hxL]; exact hx) (e_LO C) (by decide) fun dx hdx hne => ?_
  have hdL : dx ≠ L := by rintro rfl; rw [upd_eq] at hdx; cases hdx
  have hdx' : σ dx = none := by rw [upd_ne _ _ hdL] at hdx; exact hdx
  refine ex_cons (ex_setattr_exc (ev_local rfl (ev_local rfl ⟨x, 176, _, _, some dx, rfl, upd_eq .., e_LO C, by decide, .some _ _ _ ((upd_ne _ _ hne).trans (upd_eq ..)) (by decide) ?_⟩)))
  refine ex_nil ?_
  show Q .none (era (upd (upd (upd (upd σ L .mark) dx _) x _) dx (.ns ["why", "at"] [why, row])) L)
  rw [upd_comm hne.symm, upd_upd, era_comm hxL, era_comm hdL, era_upd hL]
  exact hq dx hdx' hne
theorem c_LO (C : Cx G) {why row : V} {Q : V → Store → Prop} (hq : ∀ ea dx σ', σ' ea = some (.exc 176 (some dx)) → σ' dx = some (.ns ["why", "at"] [why, row]) → σ ea = none → σ dx = none → Q (.ref ea) σ') :
    CallW G 6 (.ref 176) [why, row] σ Q X := by
  refine (exc_newC (n := 5) (e_LO C) (by simp) fun x hx => c_LO_init C (upd_eq ..) fun dx hdx hne => ⟨rfl, ?_⟩).w
  have hdx' : σ dx = none := by rw [upd_ne _ _ hne] at hdx; exact hdx
  exact hq x dx _ (upd_eq ..) ((upd_ne _ _ hne).trans (upd_eq ..)) hx hdx'

/-- a bad text, a thing left out: as they fly -/
noncomputable def xBT (why : Str) (row col : Int) : Exn := ⟨157, ["why", "row", "column"], [.str why, .int row, .int col]⟩
noncomputable def xLO (why : Str) (row : Int) : Exn := ⟨176, ["why", "at"], [.str why, .int row]⟩
/-- a token -/
noncomputable def tokV (sort text : Str) (val : V) (row col : Int) : V := .obj 195 ["sort", "text", "value", "row", "column"] [.str sort, .str text, val, .int row, .int col]

end
end Mine
end

section
namespace Mine
theorem eqV_of {σ : Store} {a b : V} {x y : PyData} (h1 : pyOf σ a = some x) (h2 : pyOf σ b = some y) (d1 : x.depth ≤ 64) (d2 : y.depth ≤ 64) : eqV σ a b = some (PyData.eqv x y) := by
  unfold eqV
  rw [h1, h2]
  exact if_pos ⟨d1, d2⟩
theorem cmp_str {σ : Store} (a b : Str) : cmpV σ .Eq (.str a) (.str b) = some (decide (a = b)) :=
  (eqV_of (σ := σ) (a := .str a) (b := .str b) (x := .str a) (y := .str b) rfl rfl (by simp [PyData.depth]) (by simp [PyData.depth])).trans (by by_cases h : a = b <;> simp [PyData.eqv, h])
theorem cmp_strn {σ : Store} (a b : Str) : cmpV σ .NotEq (.str a) (.str b) = some (!decide (a = b)) := by
  show (cmpV σ .Eq (.str a) (.str b)).map _ = _
  rw [cmp_str]; rfl
theorem cmp_int {σ : Store} (a b : Int) : cmpV σ .Eq (.int a) (.int b) = some (decide (a = b)) :=
  (eqV_of (σ := σ) (a := .int a) (b := .int b) (x := .int a) (y := .int b) rfl rfl (by simp [PyData.depth]) (by simp [PyData.depth])).trans (by by_cases h : a = b <;> simp [PyData.eqv, h])
theorem cmp_intn {σ : Store} (a b : Int) : cmpV σ .NotEq (.int a) (.int b) = some (!decide (a = b)) := by
  show (cmpV σ .Eq (.int a) (.int b)).map _ = _
  rw [cmp_int]; rfl
abbrev tkNs : List Str := ["sort", "text", "value", "row", "column"]
inductive TaR (name : Str) (Q : V → Store → Prop) (x : V) (σ1 : Store) : Prop | mk (sort text : Str) (val : V) (row col : Int) (u : V) (h1 : x = tokV sort text val row col) (h2 : getF tkNs [.str sort, .str text, val, .int row, .int col] name = some u) (h3 : plainV u = true) (q : Q u σ1)
section
variable {G : Gd} {md : Md} {loc : Loc} {σ : Store} {X : Exn → Prop}

theorem i_TB (C : Cx G) : IsiAt G 195 223 false := ⟨_, C.k, by kernel_rfl⟩
theorem i_TT (C : Cx G) : IsiAt G 195 195 true := ⟨_, C.k, by kernel_rfl⟩

theorem ev_tattr (C : Cx G) {e : Expr} {name : Str} {pos : Pos} {Q : V → Store → Prop}
    (h : EvW G md e loc σ (TaR name Q) X)
    (hn : (["sort", "text", "value", "row", "column"] : List Str).contains name = true)
    (he : ∀ env, eval (.Attribute e name pos) env = (do
      let o ← eval e env
      standAt pos.atName
      let r ← holding [o] (getAttr o name true)
      letTemporaryGo e o r
      pure r) := by intro _; rfl) : EvW G md (.Attribute e name pos) loc σ Q X :=
  ev_attr (h.mono (fun x σ1 ⟨sort, text, val, row, col, u, hx, hg, hp, hq⟩ => ⟨195, _, _, _, u, by rw [hx]; rfl, by rw [C.cls]; rfl, hn, hg, hp, hq⟩) fun _ z => z) he

noncomputable def refWhy (why sort : Str) : Str := if why = "unexpected token" ∧ sort = "reserved" then "unknown operator" else why

inductive BTR (X : Exn → Prop) (σ : Store) (vs : List V) (σ1 : Store) : Prop | mk (why : Str) (row col : Int) (h : vs = [.str why, .int row, .int col]) (hs : σ1 = σ) (hx : X (xBT why row col))
inductive LOR (X : Exn → Prop) (σ : Store) (vs : List V) (σ1 : Store) : Prop | mk (why : Str) (row : Int) (h : vs = [.str why, .int row]) (hs : σ1 = σ) (hx : X (xLO why row))
theorem raise_BT (C : Cx G) {p1 p2 p3 : Pos} {es : List Expr} {Q : Flw → Loc → Store → Prop} (hd : md.hd = none) (hn : 6 ≤ md.n) (hs : md.sc.lookup ("BadText" : Str) = some .globalImplicit)
    (h : EvsW G md es loc σ (BTR X σ) X) (he : es.all notStar = true := by rfl) :
    Ex1 G md (.Raise (some (.Call (.Name "BadText" p1) es [] p2)) none p3) loc σ Q X := by
  refine ex_raise hd (gcall (n := 6) (g_BadText C) (keep_exc (e_BT C)) hs hn hd ?_ (by decide) he)
  intro pos A env m s S
  refine wpAny_mono (h pos A env m s S) (fun vs s1 q => ?_) fun _ _ z => z
  obtain ⟨us, σ1, ⟨why, row, col, rfl, rfl, hx⟩, h2, h3, h4⟩ := q
  exact ⟨_, σ1, c_BT C fun ea dx σ' k1 k2 k3 k4 => ⟨ea, 157, _, _, dx, _, _, rfl, k1, k2, k3, k4, rfl, e_BT C, hx⟩, h2, h3, h4⟩
theorem raise_LO (C : Cx G) {p1 p2 p3 : Pos} {es : List Expr} {Q : Flw → Loc → Store → Prop} (hd : md.hd = none) (hn : 6 ≤ md.n) (hs : md.sc.lookup ("LeftOut" : Str) = some .globalImplicit)
    (h : EvsW G md es loc σ (LOR X σ) X) (he : es.all notStar = true := by rfl) :
    Ex1 G md (.Raise (some (.Call (.Name "LeftOut" p1) es [] p2)) none p3) loc σ Q X := by
  refine ex_raise hd (gcall (n := 6) (g_LeftOut C) (keep_exc (e_LO C)) hs hn hd ?_ (by decide) he)
  intro pos A env m s S
  refine wpAny_mono (h pos A env m s S) (fun vs s1 q => ?_) fun _ _ z => z
  obtain ⟨us, σ1, ⟨why, row, rfl, rfl, hx⟩, h2, h3, h4⟩ := q
  exact ⟨_, σ1, c_LO C fun ea dx σ' k1 k2 k3 k4 => ⟨ea, 176, _, _, dx, _, _, rfl, k1, k2, k3, k4, rfl, e_LO C, hx⟩, h2, h3, h4⟩

theorem c_refuse (C : Cx G) {why sort text : Str} {val : V} {row col : Int} {Q : V → Store → Prop} (hx : X (xBT (refWhy why sort) row col)) : CallW G 7 (.ref 292) [.str why, tokV sort text val row col] σ Q X := by
  refine call_fn (n := 6) (fnO (ps := ["why", "item"]) C rfl rfl rfl rfl (bt2 fun _ _ _ => .of_eq rfl)) (by decide) (by decide) rfl fun L hL => ?_
  have fin1 : why = "unexpected token" ∧ sort = "reserved" → X (xBT "unknown operator" row col) := fun h => by rw [show refWhy why sort = "unknown operator" from if_pos h] at hx; exact hx
  have fin2 : ¬ (why = "unexpected token" ∧ sort = "reserved") → X (xBT why row col) := fun h => by rw [show refWhy why sort = why from if_neg h] at hx; exact hx
  refine ex_cons (ex_if (ts_and (ts_cmp (ev_local rfl (ev_str ⟨_, cmp_str _ _, ?_⟩ (fit_of (by kernel_rfl)))))))
  by_cases h1 : why = "unexpected token"
  · refine ifP (by first | exact decide_eq_true (by assumption) | exact decide_eq_false (by assumption) | exact ndF (by assumption) | exact ndT (by assumption)) ?_
    refine ts_and (ts_not (ts_plain (bcall (b_isinstance C) rfl (keep_builtin _) rfl rfl (evs_cons (ev_local rfl (evs_cons (ev_global (g_Branch C) rfl (evs_nil ?_))))))))
    refine bi_isi_obj C.ok rfl (i_TB C) ⟨_, rfl, ?_⟩
    refine ifP (by decide) ?_
    refine ts_and (ts_cmp (ev_tattr C (ev_local rfl ⟨_, _, _, _, _, _, rfl, rfl, rfl, ev_str ⟨_, cmp_str _ _, ?_⟩ (fit_of (by kernel_rfl))⟩) (by decide)))
    by_cases h2 : sort = "reserved"
    · refine ifP (by first | exact decide_eq_true (by assumption) | exact decide_eq_false (by assumption) | exact ndF (by assumption) | exact ndT (by assumption)) ?_
      refine ts_and_nil ?_
      refine ifP (by decide) ?_
      exact ex_cons (raise_BT C rfl (Nat.le_refl _) rfl (evs_cons (ev_str (evs_cons (ev_tattr C (ev_local rfl ⟨_, _, _, _, _, _, rfl, rfl, rfl, evs_cons (ev_tattr C (ev_local rfl ⟨_, _, _, _, _, _, rfl, rfl, rfl, evs_nil ⟨_, _, _, rfl, rfl, fin1 ⟨h1, h2⟩⟩⟩) (by decide))⟩) (by decide))) (fit_of (by kernel_rfl)))))
    · refine ifN (by simpa using h2) (ifN (by decide) ?_)
      exact ex_nil (ex_cons (raise_BT C rfl (Nat.le_refl _) rfl (evs_cons (ev_local rfl (evs_cons (ev_tattr C (ev_local rfl ⟨_, _, _, _, _, _, rfl, rfl, rfl, evs_cons (ev_tattr C (ev_local rfl ⟨_, _, _, _, _, _, rfl, rfl, rfl, evs_nil ⟨_, _, _, rfl, rfl, fin2 (fun h => h2 h.2)⟩⟩) (by decide))⟩) (by decide)))))))
  · refine ifN (by simpa using h1) (ifN (by decide) ?_)
    exact ex_nil (ex_cons (raise_BT C rfl (Nat.le_refl _) rfl (evs_cons (ev_local rfl (evs_cons (ev_tattr C (ev_local rfl ⟨_, _, _, _, _, _, rfl, rfl, rfl, evs_cons (ev_tattr C (ev_local rfl ⟨_, _, _, _, _, _, rfl, rfl, rfl, evs_nil ⟨_, _, _, rfl, rfl, fin2 (fun h => h1 h.1)⟩⟩) (by decide))⟩) (by decide)))))))
end
end Mine
end

section
namespace Mine
theorem ixAt_nat {α : Type} {l : List α} {i : Nat} {x : α} (h : l[i]? = some x) : ixAt l (i : Int) = some x := by
  have hi := (List.getElem?_eq_some_iff.mp h).1
  have e : seqIndex? (i : Int) l.length = some i := by
    unfold seqIndex?
    have e1 : ¬ ((i : Int) < 0) := by lia
    simp only [if_neg e1]
    rw [if_pos (show (decide (0 ≤ (i : Int)) && decide ((i : Int) < (l.length : Int))) = true by simp; lia)]
    simp
  unfold ixAt
  rw [e]; exact h
theorem seq_last (m : Nat) : seqIndex? (-1) (m + 1) = some m := by
  have e : (-1 : Int) + ((m + 1 : Nat) : Int) = (m : Int) := by rw [Int.add_comm]; exact Int.add_neg_cancel_right (m : Int) 1
  show (if (decide (0 ≤ (-1 : Int) + ((m + 1 : Nat) : Int)) && decide ((-1 : Int) + ((m + 1 : Nat) : Int) < ((m + 1 : Nat) : Int))) = true then some ((-1 : Int) + ((m + 1 : Nat) : Int)).toNat else none) = some m
  rw [e, if_pos (by rw [decide_eq_true (Int.natCast_nonneg m), decide_eq_true (Int.ofNat_lt.mpr (Nat.lt_succ_self m))]; rfl)]
  rfl
theorem ixAt_last {α : Type} {l : List α} {x : α} (h : l.getLast? = some x) : ixAt l (-1) = some x := by
  obtain ⟨l0, rfl⟩ := List.getLast?_eq_some_iff.mp h
  unfold ixAt
  rw [List.length_append, List.length_singleton, seq_last]
  exact List.getElem?_concat_length
theorem nat_ix {i : Nat} (h : i < 2 ^ 63) : -(2 ^ 63) ≤ (i : Int) ∧ (i : Int) < 2 ^ 63 := ⟨Int.le_trans (by decide) (Int.natCast_nonneg i), Int.ofNat_lt.mpr h⟩
noncomputable def hiB (sort : Str) : Bool := (["int", "id"] : List Str).any (· == sort)
section
variable {G : Gd} {md : Md} {loc : Loc} {σ : Store} {X : Exn → Prop}
theorem item_tok {items : V} {l : List V} {i : Nat} {x : V} {Q : V → Store → Prop} (hl : lk σ items = .lst l) (hz : l.length ≤ 2 ^ 20) (h : l[i]? = some x) (hp : Q x σ) : SubR items Q (.int (i : Int)) σ :=
  ⟨x, .lst _ l _ x hl (nat_ix (Nat.lt_of_lt_of_le (List.getElem?_eq_some_iff.mp h).1 (Nat.le_trans hz (by decide)))) (ixAt_nat h), hp⟩

/-- «at < len(items)» -/
theorem lt_len (C : Cx G) {x y : Str} {p1 p2 p3 p4 p5 : Pos} {i : Nat} {v : V} {l : List V} {Q : Bool → Store → Prop} (hd : md.hd = none) (hx : loc.lookup x = some (.val (.int i))) (hy : loc.lookup y = some (.val v)) (hl : lk σ v = .lst l) (hz : l.length ≤ 2 ^ 20)
    (hm : md.sc.lookup ("len" : Str) = some .globalImplicit) (hq : Q (decide (i < l.length)) σ) (d1 : (x == ("__debug__" : Str)) = false := by decide) (d2 : (y == ("__debug__" : Str)) = false := by decide) :
    TsW G md (.Compare (.Name x p1) [.Lt] [.Call (.Name "len" p2) [.Name y p3] [] p4] p5) loc σ Q X := by
  refine ts_cmp (ev_local hx (bcall (b_len C) rfl (keep_builtin _) hm hd (evs_cons (ev_local hy (evs_nil (bi_len (n := l.length) (by unfold lenV; rw [hl]) (by first | decide | (refine Nat.le_trans (by assumption) ?_; exact Nat.le_of_ble_eq_true rfl) | lia) ⟨decide (i < l.length), ?_, hq⟩)) d2)) (by decide)) d1)
  show some (decide ((i : Int) < (l.length : Int))) = _
  simp

theorem lt_lenV (C : Cx G) {x y : Str} {p1 p2 p3 p4 p5 : Pos} {i : Nat} {v : V} {l : List V} {Q : V → Store → Prop} (hd : md.hd = none) (hx : loc.lookup x = some (.val (.int i))) (hy : loc.lookup y = some (.val v)) (hl : lk σ v = .lst l) (hz : l.length ≤ 2 ^ 20)
    (hm : md.sc.lookup ("len" : Str) = some .globalImplicit) (hq : Q (.bool (decide (i < l.length))) σ) (d1 : (x == ("__debug__" : Str)) = false := by decide) (d2 : (y == ("__debug__" : Str)) = false := by decide) :
    EvW G md (.Compare (.Name x p1) [.Lt] [.Call (.Name "len" p2) [.Name y p3] [] p4] p5) loc σ Q X := by
  refine ev_cmp (ev_local hx (bcall (b_len C) rfl (keep_builtin _) hm hd (evs_cons (ev_local hy (evs_nil (bi_len (n := l.length) (by unfold lenV; rw [hl]) (by first | decide | (refine Nat.le_trans (by assumption) ?_; exact Nat.le_of_ble_eq_true rfl) | lia) ⟨decide (i < l.length), ?_, hq⟩)) d2)) (by decide)) d1)
  show some (decide ((i : Int) < (l.length : Int))) = _
  simp

theorem c_hi_none (C : Cx G) {items : V} {l : List V} {i : Nat} {Q : V → Store → Prop} (hl : items = .lst l) (hz : l.length ≤ 2 ^ 20) (h : l.length ≤ i) (hq : Q (.bool false) σ) : CallW G 1 (.ref 325) [items, .int i] σ Q X := by
  subst hl
  refine call_fn (n := 0) (fnO (ps := ["items", "at"]) C rfl rfl rfl rfl (bt2 fun _ _ _ => .of_eq rfl)) (by decide) (by decide) rfl fun L hL => ?_
  refine ex_cons (ex_return (ev_and (lt_lenV C rfl rfl rfl rfl hz rfl ⟨_, rfl, ?_⟩)))
  refine ifN (by simp; lia) ?_
  show Q _ (era (upd σ L .mark) L)
  rw [era_upd hL]; exact hq
end
end Mine
end

section
namespace Mine
section
variable {G : Gd} {md : Md} {loc : Loc} {σ : Store} {X : Exn → Prop}

theorem isi_branch (C : Cx G) {e : Expr} {p1 p2 p3 : Pos} {sort text : Str} {val : V} {row col : Int} {Q : V → Store → Prop} (hd : md.hd = none) (h : EvW G md e loc σ (EqBR (tokV sort text val row col) false Q) X)
    (h1 : md.sc.lookup ("isinstance" : Str) = some .globalImplicit) (h2 : md.sc.lookup ("Branch" : Str) = some .globalImplicit) (hn : notStar e = true := by rfl) : EvW G md (.Call (.Name "isinstance" p1) [e, .Name "Branch" p2] [] p3) loc σ Q X := by
  refine bcall (b_isinstance C) rfl (keep_builtin _) h1 hd (evs_cons (h.mono (fun v σ1 ⟨hv, hq⟩ => evs_cons (ev_global (g_Branch C) h2 (evs_nil ?_))) fun _ z => z) hn) (by decide) (by rw [List.all_cons, hn]; rfl)
  subst hv
  exact bi_isi_obj C.ok rfl (i_TB C) hq
theorem isi_token (C : Cx G) {e : Expr} {p1 p2 p3 : Pos} {sort text : Str} {val : V} {row col : Int} {Q : V → Store → Prop} (hd : md.hd = none) (h : EvW G md e loc σ (EqBR (tokV sort text val row col) true Q) X)
    (h1 : md.sc.lookup ("isinstance" : Str) = some .globalImplicit) (h2 : md.sc.lookup ("Token" : Str) = some .globalImplicit) (hn : notStar e = true := by rfl) : EvW G md (.Call (.Name "isinstance" p1) [e, .Name "Token" p2] [] p3) loc σ Q X := by
  refine bcall (b_isinstance C) rfl (keep_builtin _) h1 hd (evs_cons (h.mono (fun v σ1 ⟨hv, hq⟩ => evs_cons (ev_global (g_Token C) h2 (evs_nil ?_))) fun _ z => z) hn) (by decide) (by rw [List.all_cons, hn]; rfl)
  subst hv
  exact bi_isi_obj C.ok rfl (i_TT C) hq

/-- «items[at]», a token -/
theorem ev_itok {x y : Str} {p1 p2 p3 : Pos} {i : Nat} {v : V} {l : List V} {t : V} {Q : V → Store → Prop} (hx : loc.lookup x = some (.val v)) (hy : loc.lookup y = some (.val (.int i))) (hl : lk σ v = .lst l) (hz : l.length ≤ 2 ^ 20) (ht : l[i]? = some t) (hq : Q t σ)
    (d1 : (x == ("__debug__" : Str)) = false := by decide) (d2 : (y == ("__debug__" : Str)) = false := by decide) : EvW G md (.Subscript (.Name x p1) (.Name y p2) p3) loc σ Q X :=
  ev_sub (ev_local hx (ev_local hy (item_tok hl hz ht hq) d2) d1)

theorem c_hi_some (C : Cx G) {l : List V} {i : Nat} {sort text : Str} {val : V} {row col : Int} {Q : V → Store → Prop} (hz : l.length ≤ 2 ^ 20) (h : l[i]? = some (tokV sort text val row col)) (hq : Q (.bool (hiB sort)) σ) : CallW G 1 (.ref 325) [.lst l, .int i] σ Q X := by
  have hi := (List.getElem?_eq_some_iff.mp h).1
  refine call_fn (n := 0) (fnO (ps := ["items", "at"]) C rfl rfl rfl rfl (bt2 fun _ _ _ => .of_eq rfl)) (by decide) (by decide) rfl fun L hL => ?_
  refine ex_cons (ex_return (ev_and (lt_lenV C rfl rfl rfl rfl hz rfl ⟨_, rfl, ?_⟩)))
  refine ifP (by first | exact decide_eq_true (by assumption) | exact decide_eq_false (by assumption) | exact ndF (by assumption) | exact ndT (by assumption)) ?_
  refine ev_and (ev_not (isi_branch C rfl (ev_itok rfl rfl rfl hz h ⟨rfl, _, rfl, _, rfl, ?_⟩) rfl rfl))
  refine ifP (by decide) ?_
  refine ev_bool_one (ev_cmp (ev_tattr C (ev_itok rfl rfl rfl hz h ⟨_, _, _, _, _, _, rfl, rfl, rfl, ?_⟩) (by decide)))
  refine ev_tuple (evs_cons (ev_str (evs_cons (ev_str (evs_nil ⟨by decide, _, rfl, ?_⟩) (fit_of (by kernel_rfl)))) (fit_of (by kernel_rfl))))
  show Q _ (era (upd σ L .mark) L)
  rw [era_upd hL]; exact hq

end
end Mine
end

section
namespace Mine
noncomputable def otherL : List Str := ["type", "param", "result", "local", "then", "else", "end", "item", "offset", "mut", "func", "extern", "table", "memory", "global", "elem", "data", "\x69mport", "export", "start", "module", "declare", "i32", "i64", "funcref", "externref"]
noncomputable def owB (t : Str) : Bool := otherL.any (· == t) || (decide (Txt.slice t none (some 7) = "offset=") || decide (Txt.slice t none (some 6) = "align="))
noncomputable def rowsL : List (Int × Str × List Str) := [(69, "i32.", ["eqz", "eq", "ne", "lt_s", "lt_u", "gt_s", "gt_u", "le_s", "le_u", "ge_s", "ge_u"]), (80, "i64.", ["eqz", "eq", "ne", "lt_s", "lt_u", "gt_s", "gt_u", "le_s", "le_u", "ge_s", "ge_u"]),
  (103, "i32.", ["clz", "ctz", "popcnt", "add", "sub", "mul", "div_s", "div_u", "rem_s", "rem_u", "and", "or", "xor", "shl", "shr_s", "shr_u", "rotl", "rotr"]), (121, "i64.", ["clz", "ctz", "popcnt", "add", "sub", "mul", "div_s", "div_u", "rem_s", "rem_u", "and", "or", "xor", "shl", "shr_s", "shr_u", "rotl", "rotr"])]
noncomputable def strOfV : V → Str
  | .str s => s
  | _ => ""
noncomputable def namesKs : List Int := match v_NAMES with
  | .idc ks _ => ks
  | _ => []
noncomputable def namesP : List (Int × Str) := match v_NAMES with
  | .idc ks vs => ks.zip (vs.map strOfV)
  | _ => []
noncomputable def codeR (t : Str) : List (Int × Str × List Str) → Option Int
  | [] => none
  | (f, p, ws) :: r => if Txt.slice t none (some 4) = p ∧ ws.any (· == Txt.slice t (some 4) none) = true then (idxS ws (Txt.slice t (some 4) none)).map fun j => f + (j : Int) else codeR t r
noncomputable def codeN (t : Str) : List (Int × Str) → V
  | (k, v) :: r => if v = t ∧ k ≠ 28 then .int k else codeN t r
  | _ => .none
/-- what code_of gives -/
noncomputable def codeV (t : Str) : V := match codeR t rowsL with
  | some i => .int i
  | none => codeN t namesP
theorem names_eq : v_NAMES = .idc (namesP.map (·.1)) (namesP.map fun p => V.str p.2) := by rfl
theorem names_ok : (namesP.all fun p => match getI (namesP.map (·.1)) (namesP.map fun p => V.str p.2) p.1 with
  | some (.str s) => s == p.2
  | _ => false) = true := by kernel_rfl
theorem names_nd : (namesP.map (·.1)).Nodup := by decide
theorem names_get {p : Int × Str} (h : p ∈ namesP) : getI (namesP.map (·.1)) (namesP.map fun p => V.str p.2) p.1 = some (.str p.2) := by
  have := List.all_eq_true.mp names_ok p h
  split at this
  · rename_i s e
    rw [e, beq_iff_eq.mp this]
  · cases this
section
variable {G : Gd} {md : Md} {loc : Loc} {σ : Store} {X : Exn → Prop}

theorem c_other (C : Cx G) {t : Str} {Q : V → Store → Prop} (hq : Q (.bool (owB t)) σ) : CallW G 1 (.ref 306) [.str t] σ Q X := by
  refine call_fn (n := 0) (fnO (ps := ["text"]) C rfl rfl rfl rfl (bt1 fun _ _ => .of_eq rfl)) (by decide) (by decide) rfl fun L hL => ?_
  have fin : ∀ v, v = V.bool (owB t) → Q v (era (upd σ L .mark) L) := fun v e => by rw [era_upd hL, e]; exact hq
  refine ex_cons (ex_return (ev_or (ev_cmp (ev_local rfl (ev_global (g_OTHER_WORDS C) rfl ⟨otherL.any (· == t), rfl, _, rfl, ?_⟩)))))
  cases h1 : otherL.any (· == t) with
  | true => exact ifP rfl (fin _ (by unfold owB; rw [h1]; rfl))
  | false =>
    refine ifN (by decide) ?_
    refine ev_or (ev_cmp (ev_cut (ev_local rfl (ev_int ⟨_, rfl, .inr ⟨_, rfl, ev_str ⟨_, cmp_str _ _, _, rfl, ?_⟩ (fit_of (by kernel_rfl))⟩⟩))))
    cases h2 : decide (Txt.slice t none (some 7) = "offset=") with
    | true => exact ifP rfl (fin _ (by unfold owB; rw [h1, h2]; rfl))
    | false =>
      refine ifN (by decide) ?_
      refine ev_bool_one (ev_cmp (ev_cut (ev_local rfl (ev_int ⟨_, rfl, .inr ⟨_, rfl, ev_str ⟨_, cmp_str _ _, ?_⟩ (fit_of (by kernel_rfl))⟩⟩))))
      exact fin _ (by unfold owB; rw [h1, h2]; rfl)
end
end Mine
end

section
namespace Mine
section
variable {G : Gd} {md : Md} {loc : Loc} {σ : Store} {X : Exn → Prop}

theorem rows_eq : v_ROWS = .tup (rowsL.map fun r => .tup [.int r.1, .str r.2.1, .tup (r.2.2.map V.str)]) := by rfl

theorem strItems_map : ∀ (l : List Str), strItems (l.map V.str) = some l
  | [] => rfl
  | x :: l => by rw [List.map_cons]; unfold strItems; rw [strItems_map l]; rfl
theorem idxS_some : ∀ {l : List Str} {x : Str}, l.any (· == x) = true → ∃ j, idxS l x = some j
  | [], x, h => by simp at h
  | y :: l, x, h => by
    unfold idxS
    by_cases hy : y = x
    · exact ⟨0, by simp [hy]⟩
    · have : l.any (· == x) = true := by
        rw [List.any_cons] at h
        simpa [hy] using h
      obtain ⟨j, hj⟩ := idxS_some this
      exact ⟨j + 1, by simp [hy, hj]⟩

/-- a loop over a list, by what holds ahead of each turn -/
theorem forL_ind {α : Type} {tgt : Expr} {body : List Stmt} {Q : Flw → Loc → Store → Prop} (f : α → V) (J : List α → Loc → Store → Prop)
    (step : ∀ a as loc σ, J (a :: as) loc σ → ∃ loc', bindT tgt (f a) loc = some loc' ∧ ExW G md body loc' σ (LpQ (J as) Q) X)
    (done : ∀ loc σ, J [] loc σ → Q .next loc σ) : ∀ as loc σ, J as loc σ → ForL G md tgt body Q X (as.map f) loc σ
  | [], loc, σ, h => done loc σ h
  | a :: as, loc, σ, h => by
    obtain ⟨loc', h1, h2⟩ := step a as loc σ h
    refine ⟨loc', h1, h2.mono fun fl l s q => ?_⟩
    cases fl with
    | next => exact forL_ind f J step done as l s q
    | cont => exact forL_ind f J step done as l s q
    | brk => exact q
    | ret r => exact q

theorem c_code (C : Cx G) {t : Str} {Q : V → Store → Prop} (hq : Q (codeV t) σ) : CallW G 1 (.ref 275) [.str t] σ Q X := by
  refine call_fn (n := 0) (fnO (ps := ["name"]) C rfl rfl rfl rfl (bt1 fun _ _ => .of_eq rfl)) (by decide) (by decide) rfl fun L hL => ?_
  have fin : ∀ v, v = codeV t → Q v (era (upd σ L .mark) L) := fun v e => by rw [era_upd hL, e]; exact hq
  refine ex_cons (ex_for rfl (by decide) (iter_ev (ev_global (g_ROWS C) rfl ⟨_, by rw [rows_eq]; exact .tup _, forL_n ?_⟩)))
  refine forL_ind (f := fun r : Int × Str × List Str => V.tup [.int r.1, .str r.2.1, .tup (r.2.2.map V.str)]) (fun rs loc σ' => σ' = upd σ L .mark ∧ loc.lookup ("name" : Str) = some (.val (.str t)) ∧ (∀ r ∈ rs, r.2.2.length ≤ 100) ∧
    codeV t = (match codeR t rs with | some i => .int i | none => codeN t namesP)) ?_ ?_ rowsL _ _ ⟨rfl, rfl, by decide, rfl⟩
  · rintro ⟨f, p, ws⟩ rs loc σ' ⟨rfl, hn, hz, hc⟩
    refine ⟨_, rfl, ?_⟩
    have hzz : ws.length ≤ 100 := hz _ (List.mem_cons_self ..)
    refine ex_cons (ex_if (ts_and (ts_cmp (ev_cut (ev_local hn (ev_int ⟨_, rfl, .inr ⟨_, rfl, ev_local rfl ⟨_, cmp_str _ _, ?_⟩⟩⟩))))))
    by_cases h1 : Txt.slice t none (some 4) = p
    · refine ifP (by first | exact decide_eq_true (by assumption) | exact decide_eq_false (by assumption) | exact ndF (by assumption) | exact ndT (by assumption)) ?_
      refine ts_and (ts_cmp (ev_cut (ev_local hn (ev_int ⟨_, rfl, .inr ⟨_, rfl, ev_local rfl ⟨ws.any (· == Txt.slice t (some 4) none), ?_, ?_⟩⟩⟩))))
      · show (strItems (ws.map V.str)).map _ = _
        rw [strItems_map]; rfl
      cases h2 : ws.any (· == Txt.slice t (some 4) none) with
      | true =>
        refine ifP rfl ?_
        refine ts_and_nil ?_
        refine ifP rfl ?_
        obtain ⟨j, hj⟩ := idxS_some h2
        have e : codeV t = .int (f + (j : Int)) := by
          rw [hc, show codeR t ((f, p, ws) :: rs) = _ from if_pos ⟨h1, h2⟩, hj]; rfl
        refine ex_cons (ex_return (ev_bin (ev_local rfl (ev_method rfl (ev_local rfl ⟨_, _, 0, .blt "tuple" "tuple.index" rfl F.plainAttrs_tuple F.slot_tuple_index (by kernel_rfl), keep_builtin _, Nat.zero_le _, evs_cons (ev_cut (ev_local hn (ev_int ⟨_, rfl, .inr ⟨_, rfl, evs_nil ?_⟩⟩)))⟩)))))
        exact t_index (strItems_map ws) (by first | decide | (refine Nat.le_trans (by assumption) ?_; exact Nat.le_of_ble_eq_true rfl) | lia) hj ⟨_, .add _ _, fin _ e.symm⟩
      | false =>
        refine ifN (by decide) (ifN (by decide) ?_)
        refine ex_nil (ex_nil ⟨rfl, hn, fun r hr => hz r (List.mem_cons_of_mem _ hr), ?_⟩)
        rw [hc, show codeR t ((f, p, ws) :: rs) = codeR t rs from if_neg (fun q => by rw [q.2] at h2; cases h2)]
    · refine ifN (by simpa using h1) (ifN (by decide) ?_)
      refine ex_nil (ex_nil ⟨rfl, hn, fun r hr => hz r (List.mem_cons_of_mem _ hr), ?_⟩)
      rw [hc, show codeR t ((f, p, ws) :: rs) = codeR t rs from if_neg (fun q => h1 q.1)]
  · rintro loc σ' ⟨rfl, hn, _, hc⟩
    refine ex_cons (ex_for rfl (by decide) (iter_ev (ev_global (g_NAMES C) rfl ⟨_, by rw [names_eq]; exact .idc _ _ names_nd (by simp), forL_n ?_⟩)))
    rw [List.map_map]
    refine forL_ind (f := fun p : Int × Str => V.int p.1) (fun rs loc σ' => σ' = upd σ L .mark ∧ loc.lookup ("name" : Str) = some (.val (.str t)) ∧ (∀ r ∈ rs, r ∈ namesP) ∧ codeV t = codeN t rs) ?_ ?_ namesP _ _ ⟨rfl, hn, fun _ h => h, hc⟩
    · rintro ⟨k, n⟩ rs loc σ' ⟨rfl, hn, hz, hc⟩
      refine ⟨_, rfl, ?_⟩
      refine ex_cons (ex_if (ts_and (ts_cmp (ev_sub (ev_global (g_NAMES C) rfl (ev_local rfl ⟨.str n, by rw [names_eq]; exact .idc _ _ _ _ (names_get (hz _ (List.mem_cons_self ..))), ev_local hn ⟨_, cmp_str _ _, ?_⟩⟩))))))
      have next : ¬ (n = t ∧ k ≠ 28) → codeV t = codeN t rs := fun h => by
        rw [hc]
        show (if n = t ∧ k ≠ 28 then V.int k else codeN t rs) = _
        rw [if_neg h]
      by_cases h1 : n = t
      · refine ifP (by first | exact decide_eq_true (by assumption) | exact decide_eq_false (by assumption) | exact ndF (by assumption) | exact ndT (by assumption)) ?_
        refine ts_and (ts_cmp (ev_local rfl (ev_global (g_SELECT_KINDS C) rfl ⟨_, cmp_intn _ _, ?_⟩)))
        by_cases h2 : k = 28
        · refine ifN (by simpa using h2) (ifN (by decide) ?_)
          exact ex_nil (ex_nil ⟨rfl, hn, fun r hr => hz r (List.mem_cons_of_mem _ hr), next fun q => q.2 h2⟩)
        · refine ifP (by first | exact decide_eq_true (by assumption) | exact decide_eq_false (by assumption) | exact ndF (by assumption) | exact ndT (by assumption)) ?_
          refine ts_and_nil ?_
          refine ifP rfl ?_
          refine ex_cons (ex_return (ev_local rfl (fin _ ?_)))
          rw [hc]
          show _ = (if n = t ∧ k ≠ 28 then V.int k else codeN t rs)
          rw [if_pos ⟨h1, h2⟩]
      · refine ifN (by simpa using h1) (ifN (by decide) ?_)
        exact ex_nil (ex_nil ⟨rfl, hn, fun r hr => hz r (List.mem_cons_of_mem _ hr), next fun q => h1 q.1⟩)
    · rintro loc σ' ⟨rfl, hn, _, hc⟩
      exact ex_cons (ex_return (ev_none (fin _ hc.symm)))
end
end Mine
end

section
namespace Mine
theorem iteT {c : Bool} {P Q : Prop} (h : c = true) (p : P) : if c = true then P else Q := by rw [if_pos h]; exact p
theorem iteF {c : Bool} {P Q : Prop} (h : c = false) (q : Q) : if c = true then P else Q := by rw [if_neg (by rw [h]; decide)]; exact q
theorem iteB {c : Bool} {P Q : Prop} (p : c = true → P) (q : c = false → Q) : if c = true then P else Q := by
  cases h : c
  · exact iteF rfl (q h)
  · exact iteT rfl (p h)
noncomputable def tail1 (t : Str) : Option Nat := t.cps.toList[0]?
noncomputable def hasS (t x : Str) : Bool := !(Builtin.Str.occurrences t x 0 t.length 1).isEmpty
/-- the first letter is a sign -/
noncomputable def signB (t : Str) : Bool := match t.cps.toList[0]? with
  | some c => hasS "+-" ⟨#[c]⟩
  | none => false
noncomputable def numsL : List (Int × Int × V × V) := match v_NUMBERS with
  | .tup l => l.map fun r => match r with
    | .tup [.int a, .int b, c, d] => (a, b, c, d)
    | _ => (0, 0, .none, .none)
  | _ => []
noncomputable def numK (code : Int) : List (Int × Int × V × V) → V
  | [] => .none
  | (a, b, c, d) :: r => if a ≤ code ∧ code ≤ b then .tup [c, d] else numK code r
theorem nums_eq : v_NUMBERS = .tup (numsL.map fun r => .tup [.int r.1, .int r.2.1, r.2.2.1, r.2.2.2]) := by rfl
noncomputable def getD (v : V) (i : Int) : Option V := match v with
  | .idc ks vs => getI ks vs i
  | _ => none
noncomputable def formV (code : Int) : V := match getD v_FORMS code with
  | some v => v
  | none => if (getD v_LOADS code).isSome then .str "memarg" else if (getD v_STORES code).isSome then .str "memarg" else if isNoneV (numK code numsL) then .none else .str "none"
noncomputable def leftB (t : Str) : Bool := (["f32.", "f64.", "v128"] : List Str).any (· == Txt.slice t none (some 4)) || (hasS t "_f32" || (hasS t "_f64" || ((["i8x16.", "i16x8.", "i32x4.", "i64x2.", "f32x4.", "f64x2."] : List Str).any (· == Txt.slice t none (some 6)) || hasS t "trunc_sat")))
section
variable {G : Gd} {md : Md} {loc : Loc} {σ : Store} {X : Exn → Prop}

theorem ev_strC {x : Str} {k : Nat} {pos : Pos} {Q : V → Store → Prop} (hf : fitB x = true) (h : Q (.str x) σ) : EvW G md (.Constant (.str x) k pos) loc σ Q X := ev_str h (fit_of hf)
theorem ev_ta (C : Cx G) {e : Expr} {name : Str} {pos : Pos} {Q : V → Store → Prop} (hn : (["sort", "text", "value", "row", "column"] : List Str).contains name = true)
    (h : EvW G md e loc σ (TaR name Q) X)
    (he : ∀ env, eval (.Attribute e name pos) env = (do
      let o ← eval e env
      standAt pos.atName
      let r ← holding [o] (getAttr o name true)
      letTemporaryGo e o r
      pure r) := by intro _; rfl) : EvW G md (.Attribute e name pos) loc σ Q X := ev_tattr C h hn he
noncomputable def conEP (e : Expr) (c : Const) : Prop := ∃ k p, e = .Constant c k p
noncomputable def conE (e : Expr) : Option Const := rdv (p := conEP e) (if h : e.ctorIdx = 19 then Expr.Constant.elim e h fun c k p => some ⟨c, k, p, rfl⟩ else none)
noncomputable def strCP (c : Const) (s : Str) : Prop := c = .str s
noncomputable def strC (c : Const) : Option Str := rdv (p := strCP c) (if h : c.ctorIdx = 5 then Const.str.elim c h fun s => some ⟨s, rfl⟩ else none)
noncomputable def strsE : List Expr → Option (List Str)
  | [] => some []
  | e :: es => ((conE e).bind strC).bind fun s => (strsE es).map (s :: ·)
theorem evs_strs {es : List Expr} : ∀ {ss : List Str} {σ : Store} {Q : List V → Store → Prop}, strsE es = some ss → ss.all fitB = true → Q (ss.map V.str) σ → EvsW G md es loc σ Q X := by
  induction es with
  | nil => intro ss σ Q h _ hq; cases h; exact evs_nil hq
  | cons e es ih =>
    intro ss σ Q h hf hq
    obtain ⟨s, h1, h2⟩ := Option.bind_eq_some_iff.mp h
    obtain ⟨c, h3, h4⟩ := Option.bind_eq_some_iff.mp h1
    obtain ⟨r, hr, rfl⟩ := Option.map_eq_some_iff.mp h2
    obtain ⟨k, p, rfl⟩ := rdv_eq (p := conEP e) h3
    obtain rfl : c = .str s := rdv_eq (p := strCP c) h4
    rw [List.all_cons, Bool.and_eq_true] at hf
    exact evs_cons (ev_strC hf.1 (ih hr hf.2 hq)) rfl
theorem ev_tupS {es : List Expr} {k : Nat} {pos : Pos} {ss : List Str} {Q : V → Store → Prop} (h1 : strsE es = some ss) (h2 : ss.all fitB = true) (h3 : ss.length ≤ 1000) (h : Q (.tup (ss.map V.str)) σ) : EvW G md (.Tuple es k pos) loc σ Q X :=
  ev_tuple (evs_strs h1 h2 ⟨by simpa using h3, h⟩)

theorem c_is_token (C : Cx G) {sort text s : Str} {val : V} {row col : Int} {Q : V → Store → Prop} (hq : Q (.bool (decide (sort = s))) σ) : CallW G 1 (.ref 235) [tokV sort text val row col, .str s] σ Q X := by
  refine (call_fnB (n := 0) (args' := [tokV sort text val row col, .str s, .none]) (fnAt (ps := ["item", "sort", "text"]) C.k rfl rfl rfl (by
      intro s vals h hs
      obtain ⟨a, b, c, e⟩ := len3 h; subst e
      exact BindsTo.of_defaults rfl (hs _ _ (C.k _ _ rfl)) rfl rfl rfl)) (by decide) (by decide) rfl (fun s vals hs r => by
      obtain ⟨v, w, rfl, r1, r2⟩ := two_args r
      exact ⟨[v, w, .none], BindsTo.of_defaults rfl (hs _ _ (C.k _ _ rfl)) rfl rfl rfl, .cons r1 (.cons r2 (.cons rfl .nil))⟩) fun L hL => ?_).w
  have fin : ∀ v, v = V.bool (decide (sort = s)) → Q v (era (upd σ L .mark) L) := fun v e => by rw [era_upd hL, e]; exact hq
  refine ex_cons (ex_return (ev_and (isi_token C rfl (ev_local rfl ⟨rfl, _, rfl, ?_⟩) rfl rfl)))
  refine ifP rfl ?_
  refine ev_and (ev_cmp (ev_tattr C (ev_local rfl ⟨_, _, _, _, _, _, rfl, rfl, rfl, ev_local rfl ⟨_, cmp_str _ _, _, rfl, ?_⟩⟩) (by decide)))
  by_cases h : sort = s
  · refine ifP (by first | exact decide_eq_true (by assumption) | exact decide_eq_false (by assumption) | exact ndF (by assumption) | exact ndT (by assumption)) ?_
    refine ev_bool_one (ev_or (ev_cmp (ev_local rfl (ev_none ⟨true, rfl, _, rfl, ?_⟩))))
    refine ifP rfl ?_
    exact fin _ (by simp [h])
  · refine ifN (by simpa using h) ?_
    exact fin _ (by simp [h])

inductive FstR (Q : V → Store → Prop) (v : V) (σ1 : Store) : Prop | mk (t : Str) (c : Nat) (h1 : v = .str t) (h2 : t.cps.toList[0]? = some c) (q : Q (.str ⟨#[c]⟩) σ1)
theorem ev_first {e : Expr} {p1 p2 : Pos} {k : Nat} {Q : V → Store → Prop} (h : EvW G md e loc σ (FstR Q) X) : EvW G md (.Subscript e (.Constant (.int 0) k p1) p2) loc σ Q X :=
  ev_sub (h.mono (fun v σ1 ⟨t, c, hv, hc, hq⟩ => ev_int ⟨_, by rw [hv]; exact .str t 0 c (by first | decide | (refine Nat.le_trans (by assumption) ?_; exact Nat.le_of_ble_eq_true rfl) | lia) (ixAt_nat (i := 0) hc), hq⟩) fun _ z => z)

theorem c_u32 (C : Cx G) {text : Str} {c : Nat} {n row col : Int} {Q : V → Store → Prop} (ht : text.cps.toList[0]? = some c)
    (h1 : signB text = true → X (xBT "unexpected token" row col)) (h2 : signB text = false → 2 ^ 32 ≤ n → X (xBT "i32 constant out of range" row col)) (hq : signB text = false → n < 2 ^ 32 → Q (.int n) σ) :
    CallW G 7 (.ref 256) [tokV "int" text (.int n) row col] σ Q X := by
  refine call_fn (n := 6) (fnO (ps := ["token"]) C rfl rfl rfl rfl (bt1 fun _ _ => .of_eq rfl)) (by decide) (by decide) rfl fun L hL => ?_
  refine ex_cons (ex_if (ts_or (ts_not (ts_plain (gcall (n := 1) (g_is_token C) (keepF C rfl) rfl (by decide) rfl (evs_cons (ev_local rfl (evs_cons (ev_str (evs_nil (c_is_token C ⟨_, rfl, ?_⟩)) (fit_of (by kernel_rfl)))))))))))
  refine ifN (by decide) ?_
  have hs : signB text = hasS "+-" ⟨#[c]⟩ := by unfold signB; rw [ht]
  refine ts_or (ts_cmp (ev_first (ev_tattr C (ev_local rfl ⟨_, _, _, _, _, _, rfl, rfl, rfl, _, c, rfl, ht, ev_str ⟨signB text, congrArg some hs.symm, ?_⟩ (fit_of (by kernel_rfl))⟩) (by decide))))
  cases hb : signB text with
  | true =>
    refine ifP rfl (ifP rfl ?_)
    exact ex_cons (raise_BT C rfl (Nat.le_refl _) rfl (evs_cons (ev_str (evs_cons (ev_tattr C (ev_local rfl ⟨_, _, _, _, _, _, rfl, rfl, rfl, evs_cons (ev_tattr C (ev_local rfl ⟨_, _, _, _, _, _, rfl, rfl, rfl, evs_nil ⟨_, _, _, rfl, rfl, h1 hb⟩⟩) (by decide))⟩) (by decide))) (fit_of (by kernel_rfl)))))
  | false =>
    refine ifN (by decide) ?_
    refine ts_or_nil ?_
    refine ifN (by decide) ?_
    refine ex_nil (ex_cons (ex_if (ts_cmp (ev_tattr C (ev_local rfl ⟨_, _, _, _, _, _, rfl, rfl, rfl, ev_bin (ev_int (ev_int ⟨_, .pow _ _ (by decide) (by decide) (by decide), decide ((2 : Int) ^ 32 ≤ n), rfl, ?_⟩))⟩) (by decide)))))
    by_cases h : (2 : Int) ^ 32 ≤ n
    · refine ifP (by first | exact decide_eq_true (by assumption) | exact decide_eq_false (by assumption) | exact ndF (by assumption) | exact ndT (by assumption)) ?_
      exact ex_cons (raise_BT C rfl (Nat.le_refl _) rfl (evs_cons (ev_str (evs_cons (ev_tattr C (ev_local rfl ⟨_, _, _, _, _, _, rfl, rfl, rfl, evs_cons (ev_tattr C (ev_local rfl ⟨_, _, _, _, _, _, rfl, rfl, rfl, evs_nil ⟨_, _, _, rfl, rfl, h2 hb h⟩⟩) (by decide))⟩) (by decide))) (fit_of (by kernel_rfl)))))
    · refine ifN (by simpa using h) ?_
      refine ex_nil (ex_cons (ex_return (ev_tattr C (ev_local rfl ⟨_, _, _, _, _, _, rfl, rfl, rfl, ?_⟩) (by decide))))
      show Q _ (era (upd σ L .mark) L)
      rw [era_upd hL]; exact hq hb (by first | decide | (refine Nat.le_trans (by assumption) ?_; exact Nat.le_of_ble_eq_true rfl) | lia)

theorem c_numk (C : Cx G) {code : Int} {Q : V → Store → Prop} (hq : Q (numK code numsL) σ) : CallW G 1 (.ref 106) [.int code] σ Q X := by
  refine call_fn (n := 0) (fnO (ps := ["code"]) C rfl rfl rfl rfl (bt1 fun _ _ => .of_eq rfl)) (by decide) (by decide) rfl fun L hL => ?_
  have fin : ∀ v, v = numK code numsL → Q v (era (upd σ L .mark) L) := fun v e => by rw [era_upd hL, e]; exact hq
  refine ex_cons (ex_for rfl (by decide) (iter_ev (ev_global (g_NUMBERS C) rfl ⟨_, by rw [nums_eq]; exact .tup _, forL_n ?_⟩)))
  refine forL_ind (f := fun r : Int × Int × V × V => V.tup [.int r.1, .int r.2.1, r.2.2.1, r.2.2.2]) (fun rs loc σ' => σ' = upd σ L .mark ∧ loc.lookup ("code" : Str) = some (.val (.int code)) ∧ numK code numsL = numK code rs) ?_ ?_ numsL _ _ ⟨rfl, rfl, rfl⟩
  · rintro ⟨a, b, c, d⟩ rs loc σ' ⟨rfl, hn, hc⟩
    refine ⟨_, rfl, ?_⟩
    have hn' : List.lookup ("code" : Str) (("results", LV.val d) :: ("params", .val c) :: ("most", .val (.int b)) :: ("least", .val (.int a)) :: loc) = some (.val (.int code)) := hn
    refine ex_cons (ex_if (ts_cmp2 (ev_local rfl (ev_local hn' ⟨decide (a ≤ code), rfl, ?_⟩))))
    have next : ¬ (a ≤ code ∧ code ≤ b) → numK code numsL = numK code rs := fun h => by
      rw [hc]
      show (if a ≤ code ∧ code ≤ b then V.tup [c, d] else numK code rs) = _
      rw [if_neg h]
    by_cases h1 : a ≤ code
    · refine ifP (by first | exact decide_eq_true (by assumption) | exact decide_eq_false (by assumption) | exact ndF (by assumption) | exact ndT (by assumption)) ?_
      refine ev_local rfl ⟨decide (code ≤ b), rfl, ?_⟩
      by_cases h2 : code ≤ b
      · refine ifP (by first | exact decide_eq_true (by assumption) | exact decide_eq_false (by assumption) | exact ndF (by assumption) | exact ndT (by assumption)) ?_
        refine ex_cons (ex_return (ev_tuple (evs_cons (ev_local rfl (evs_cons (ev_local rfl (evs_nil ⟨by first | exact Nat.le_of_ble_eq_true rfl | simp, fin _ ?_⟩)))))))
        rw [hc]
        show _ = (if a ≤ code ∧ code ≤ b then V.tup [c, d] else numK code rs)
        rw [if_pos ⟨h1, h2⟩]
      · refine ifN (by simpa using h2) ?_
        exact ex_nil (ex_nil ⟨rfl, hn', next fun q => h2 q.2⟩)
    · refine ifN (by simpa using h1) (ifN (by decide) ?_)
      exact ex_nil (ex_nil ⟨rfl, hn', next fun q => h1 q.1⟩)
  · rintro loc σ' ⟨rfl, hn, hc⟩
    exact ex_cons (ex_return (ev_none (fin _ hc.symm)))

theorem c_form (C : Cx G) {code : Int} {Q : V → Store → Prop} (hq : Q (formV code) σ) : CallW G 2 (.ref 113) [.int code] σ Q X := by
  refine call_fn (n := 1) (fnO (ps := ["code"]) C rfl rfl rfl rfl (bt1 fun _ _ => .of_eq rfl)) (by decide) (by decide) rfl fun L hL => ?_
  have fin : ∀ v, v = formV code → Q v (era (upd σ L .mark) L) := fun v e => by rw [era_upd hL, e]; exact hq
  refine ex_cons (ex_if (ts_cmp (ev_local rfl (ev_global (g_FORMS C) rfl ⟨(getD v_FORMS code).isSome, rfl, iteB (fun h1 => ?_) fun h1 => ?_⟩))))
  · obtain ⟨v, hv⟩ := Option.isSome_iff_exists.mp h1
    refine ex_cons (ex_return (ev_sub (ev_global (g_FORMS C) rfl (ev_local rfl ⟨v, .idc _ _ _ _ hv, fin _ ?_⟩))))
    unfold formV; rw [hv]
  have e1 : getD v_FORMS code = none := by simpa using h1
  refine ex_nil (ex_cons (ex_if (ts_or (ts_cmp (ev_local rfl (ev_global (g_LOADS C) rfl ⟨(getD v_LOADS code).isSome, rfl, iteB (fun h2 => ?_) fun h2 => ?_⟩))))))
  · exact ex_cons (ex_return (ev_str (fin _ (by unfold formV; rw [e1, h2]; rfl)) (fit_of (by kernel_rfl))))
  refine ts_or (ts_cmp (ev_local rfl (ev_global (g_STORES C) rfl ⟨(getD v_STORES code).isSome, rfl, iteB (fun h3 => ?_) fun h3 => ?_⟩)))
  · exact ex_cons (ex_return (ev_str (fin _ (by unfold formV; rw [e1, h2, h3]; rfl)) (fit_of (by kernel_rfl))))
  refine ts_or_nil (iteF rfl (ex_nil (ex_cons (ex_return (ev_ifexp (ts_cmp (gcall (n := 1) (g_number_kind C) (keepF C rfl) rfl (by decide) rfl (evs_cons (ev_local rfl (evs_nil (c_numk C (ev_none ⟨isNoneV (numK code numsL), rfl, iteB (fun h4 => ?_) fun h4 => ?_⟩)))))))))))) 
  · exact ev_none (fin _ (by unfold formV; rw [e1, h2, h3, h4]; rfl))
  · exact ev_str (fin _ (by unfold formV; rw [e1, h2, h3, h4]; rfl)) (fit_of (by kernel_rfl))

theorem c_left (C : Cx G) {t : Str} {Q : V → Store → Prop} (hq : Q (.bool (leftB t)) σ) : CallW G 1 (.ref 282) [.str t] σ Q X := by
  refine call_fn (n := 0) (fnO (ps := ["word"]) C rfl rfl rfl rfl (bt1 fun _ _ => .of_eq rfl)) (by decide) (by decide) rfl fun L hL => ?_
  have fin : ∀ v, v = V.bool (leftB t) → Q v (era (upd σ L .mark) L) := fun v e => by rw [era_upd hL, e]; exact hq
  have hit : leftB t = true → Q (.bool true) (era (upd σ L .mark) L) := fun h => fin _ (by rw [h])
  refine ex_cons <| ex_if <| ts_or <| ts_cmp <| ev_cut <| ev_local rfl <| ev_int ⟨_, rfl, .inr ⟨_, rfl, ?_⟩⟩
  refine ev_tupS rfl (by kernel_rfl) (by decide) ⟨(["f32.", "f64.", "v128"] : List Str).any (· == Txt.slice t none (some 4)), rfl, iteB (fun h1 => ?_) fun h1 => ?_⟩
  · exact iteT rfl (ex_cons <| ex_return <| ev_bool <| hit (by unfold leftB; rw [h1]; rfl))
  refine ts_or <| ts_cmp <| ev_strC (by kernel_rfl) <| ev_local rfl ⟨hasS t "_f32", rfl, iteB (fun h2 => ?_) fun h2 => ?_⟩
  · exact iteT rfl (ex_cons <| ex_return <| ev_bool <| hit (by unfold leftB; rw [h1, h2]; rfl))
  refine ts_or <| ts_cmp <| ev_strC (by kernel_rfl) <| ev_local rfl ⟨hasS t "_f64", rfl, iteB (fun h3 => ?_) fun h3 => ?_⟩
  · exact iteT rfl (ex_cons <| ex_return <| ev_bool <| hit (by unfold leftB; rw [h1, h2, h3]; rfl))
  refine ts_or_nil <| iteF rfl <| ex_nil <| ex_cons <| ex_return <| ev_or <| ev_cmp <| ev_cut <| ev_local rfl <| ev_int ⟨_, rfl, .inr ⟨_, rfl, ?_⟩⟩
  refine ev_tupS rfl (by kernel_rfl) (by decide) ⟨(["i8x16.", "i16x8.", "i32x4.", "i64x2.", "f32x4.", "f64x2."] : List Str).any (· == Txt.slice t none (some 6)), rfl, _, rfl, iteB (fun h4 => ?_) fun h4 => ?_⟩
  · exact fin _ (by unfold leftB; rw [h1, h2, h3, h4]; rfl)
  refine ev_bool_one <| ev_cmp <| ev_strC (by kernel_rfl) <| ev_local rfl ⟨hasS t "trunc_sat", rfl, ?_⟩
  exact fin _ (by unfold leftB; rw [h1, h2, h3, h4]; rfl)
end
end Mine
end

section
namespace Mine
theorem upd_self {σ : Store} {a : Addr} {m : MObj} (h : σ a = some m) : upd σ a m = σ := by
  funext b
  unfold upd
  by_cases hb : b = a
  · subst hb; rw [if_pos rfl, h]
  · rw [if_neg hb]
theorem ne_of {σ : Store} {a b : Addr} {m : MObj} (ha : σ a = some m) (hb : σ b = none) : a ≠ b := by rintro rfl; rw [ha] at hb; cases hb
theorem upd_out {σ : Store} {a b : Addr} {m mo : MObj} (ha : σ a = some m) (hb : σ b = none) : upd σ b mo a = some m := by rw [upd_ne _ _ (ne_of ha hb)]; exact ha
theorem upd_two {σ : Store} {a b : Addr} {m m1 mo : MObj} (ha : σ a = some m) (hb : σ b = some m1) (hne : m ≠ m1) : upd σ b mo a = some m := by
  rw [upd_ne _ _ (by rintro rfl; rw [ha] at hb; cases hb; exact hne rfl)]; exact ha
noncomputable def lbNs : List Str := ["name", "word", "token", "has_else"]
noncomputable def rnNs : List Str := ["items", "at", "is_folded", "base"]
noncomputable def rdNs : List Str := ["spaces", "local_ids", "body", "labels", "tasks"]
noncomputable def brNs : List Str := ["items", "row", "column"]
section
variable {G : Gd} {md : Md} {loc : Loc} {σ : Store} {X : Exn → Prop}

theorem m_Token (C : Cx G) : MakeAt G 195 192 := ⟨_, C.k, by kernel_rfl⟩
theorem m_Branch (C : Cx G) : MakeAt G 223 213 := ⟨_, C.k, by kernel_rfl⟩
theorem m_Label (C : Cx G) : MakeAt G 370 367 := ⟨_, C.k, by kernel_rfl⟩
theorem m_Run (C : Cx G) : MakeAt G 391 388 := ⟨_, C.k, by kernel_rfl⟩
theorem m_Reader (C : Cx G) : MakeAt G 564 416 := ⟨_, C.k, by kernel_rfl⟩

/-- «self.name = e», self an object of the store -/
inductive SelfR (name : Str) (a D dx : Addr) (ks : List Str) (vs : List V) (loc : Loc) (Q : Flw → Loc → Store → Prop) (u x : V) (σ2 : Store) : Prop | mk (h1 : x = .ref a) (h2 : σ2 a = some (.ins D dx)) (h3 : σ2 dx = some (.ns ks vs)) (q : Q .next loc (upd σ2 dx (.ns (putFk ks name) (putFv ks vs name u))))
abbrev SelfQ (G : Gd) (md : Md) (o : Expr) (name : Str) (a D dx : Addr) (ks : List Str) (vs : List V) (loc : Loc) (Q : Flw → Loc → Store → Prop) (X : Exn → Prop) : V → Store → Prop := fun u σ1 => EvW G md o loc σ1 (SelfR name a D dx ks vs loc Q u) X
theorem set_self (C : Cx G) {o e : Expr} {name : Str} {tp pos : Pos} {Q : Flw → Loc → Store → Prop} {a D dx : Addr} {own ks : List Str} {vs : List V} (hc : clsL.lookup D = some own) (hn : own.contains name = true) (hz : ks.length ≤ 900)
    (h : EvW G md e loc σ (SelfQ G md o name a D dx ks vs loc Q X) X) (hk : notComp e = true := by rfl) :
    Ex1 G md (.Assign [.Attribute o name tp] e pos) loc σ Q X :=
  ex_setattr (h.mono (fun u σ1 q => q.mono (fun x σ2 ⟨h1, h2, h3, h4⟩ => ⟨a, D, dx, ks, vs, own, h1, h2, h3, by rw [C.cls]; exact hc, hn, hz, h4⟩) fun _ z => z) fun _ z => z) hk

theorem k_Token_init (C : Cx G) {x dx : Addr} {a b c d e : V} {Q : V → Store → Prop} (hx : σ x = some (.ins 195 dx)) (hd : σ dx = some (.ns [] [])) (hq : Q .none (upd σ dx (.ns ["sort", "text", "value", "row", "column"] [a, b, c, d, e]))) :
    CallC G 1 (.ref 192) [.ref x, a, b, c, d, e] σ Q X := by
  refine call_fnC (n := 0) (fnO (ps := ["self", "sort", "text", "value", "row", "column"]) C rfl rfl rfl rfl (bt6 fun _ _ _ _ _ _ _ => .of_eq rfl)) (by decide) (by decide) rfl fun L hL => ?_
  have hxL := ne_of hx hL
  have hdL := ne_of hd hL
  have hxd : x ≠ dx := by rintro rfl; rw [hx] at hd; cases hd
  have h0 : upd σ L .mark x = some (.ins 195 dx) := upd_out hx hL
  have up : ∀ {τ : Store} {m}, τ x = some (.ins 195 dx) → upd τ dx m x = some (.ins 195 dx) := fun h => by rw [upd_ne _ _ hxd]; exact h
  refine ex_cons (set_self C (vs := []) rfl (by decide) (by decide) (ev_local rfl (ev_local rfl ⟨rfl, h0, upd_out hd hL, ?_⟩)))
  refine ex_cons (set_self C rfl (by decide) (by decide) (ev_local rfl (ev_local rfl ⟨rfl, up h0, upd_eq .., ?_⟩)))
  refine ex_cons (set_self C rfl (by decide) (by decide) (ev_local rfl (ev_local rfl ⟨rfl, up (up h0), upd_eq .., ?_⟩)))
  refine ex_cons (set_self C rfl (by decide) (by decide) (ev_local rfl (ev_local rfl ⟨rfl, up (up (up h0)), upd_eq .., ?_⟩)))
  refine ex_cons (set_self C rfl (by decide) (by decide) (ev_local rfl (ev_local rfl ⟨rfl, up (up (up (up h0))), upd_eq .., ?_⟩)))
  refine ex_nil ?_
  show Q .none (era (upd (upd (upd (upd (upd (upd σ L .mark) dx _) dx _) dx _) dx _) dx (.ns ["sort", "text", "value", "row", "column"] [a, b, c, d, e])) L)
  rw [upd_upd, upd_upd, upd_upd, upd_upd, era_comm hdL, era_upd hL]
  exact hq
theorem c_Token (C : Cx G) {sort text : Str} {val : V} {row col : Int} {Q : V → Store → Prop} (hq : Q (tokV sort text val row col) σ) : CallW G 2 (.ref 195) [.str sort, .str text, val, .int row, .int col] σ Q X := by
  refine callW_frz (call_clsC (n := 1) (m_Token C) fun x dx hx hdx hne => k_Token_init C (upd_eq ..) ((upd_ne _ _ hne.symm).trans (upd_eq ..)) ⟨rfl, _, _, .obj x 195 dx _ _ ((upd_ne _ _ hne).trans (upd_eq ..)) (upd_eq ..), ?_⟩).w
  have : era (era (upd (upd (upd σ dx (.ns [] [])) x (.ins 195 dx)) dx (.ns ["sort", "text", "value", "row", "column"] [.str sort, .str text, val, .int row, .int col])) x) dx = σ := by
    funext b
    by_cases h1 : b = dx
    · subst h1; rw [era_eq, hdx]
    · rw [era_ne _ h1]
      by_cases h2 : b = x
      · subst h2; rw [era_eq, hx]
      · rw [era_ne _ h2, upd_ne _ _ h1, upd_ne _ _ h2, upd_ne _ _ h1]
  rw [this]; exact hq

theorem k_Label_init (C : Cx G) {x dx : Addr} {a b c : V} {Q : V → Store → Prop} (hx : σ x = some (.ins 370 dx)) (hd : σ dx = some (.ns [] [])) (hq : Q .none (upd σ dx (.ns lbNs [a, b, c, .bool false]))) :
    CallC G 1 (.ref 367) [.ref x, a, b, c] σ Q X := by
  refine call_fnC (n := 0) (fnO (ps := ["self", "name", "word", "token"]) C rfl rfl rfl rfl (bt4 fun _ _ _ _ _ => .of_eq rfl)) (by decide) (by decide) rfl fun L hL => ?_
  have hdL := ne_of hd hL
  have hxd : x ≠ dx := by rintro rfl; rw [hx] at hd; cases hd
  have h0 : upd σ L .mark x = some (.ins 370 dx) := upd_out hx hL
  have up : ∀ {τ : Store} {m}, τ x = some (.ins 370 dx) → upd τ dx m x = some (.ins 370 dx) := fun h => by rw [upd_ne _ _ hxd]; exact h
  refine ex_cons (set_self C (vs := []) rfl (by decide) (by decide) (ev_local rfl (ev_local rfl ⟨rfl, h0, upd_out hd hL, ?_⟩)))
  refine ex_cons (set_self C rfl (by decide) (by decide) (ev_local rfl (ev_local rfl ⟨rfl, up h0, upd_eq .., ?_⟩)))
  refine ex_cons (set_self C rfl (by decide) (by decide) (ev_local rfl (ev_local rfl ⟨rfl, up (up h0), upd_eq .., ?_⟩)))
  refine ex_cons (set_self C rfl (by decide) (by decide) (ev_bool (ev_local rfl ⟨rfl, up (up (up h0)), upd_eq .., ?_⟩)))
  refine ex_nil ?_
  show Q .none (era (upd (upd (upd (upd (upd σ L .mark) dx _) dx _) dx _) dx (.ns lbNs [a, b, c, .bool false])) L)
  rw [upd_upd, upd_upd, upd_upd, era_comm hdL, era_upd hL]
  exact hq
theorem upd_fill {σ : Store} {x dx : Addr} {m1 m2 m3 : MObj} (h : x ≠ dx) : upd (upd (upd σ dx m1) x m2) dx m3 = upd (upd σ dx m3) x m2 := by
  rw [upd_comm h, upd_upd]
theorem c_Label (C : Cx G) {a b c : V} {Q : V → Store → Prop} (hq : ∀ x dx, σ x = none → σ dx = none → x ≠ dx → Q (.ref x) (upd (upd σ dx (.ns lbNs [a, b, c, .bool false])) x (.ins 370 dx))) : CallW G 2 (.ref 370) [a, b, c] σ Q X := by
  refine (call_clsC (n := 1) (m_Label C) fun x dx hx hdx hne => k_Label_init C (upd_eq ..) ((upd_ne _ _ hne.symm).trans (upd_eq ..)) ⟨rfl, ?_⟩).w
  rw [upd_fill hne]; exact hq x dx hx hdx hne

theorem k_Run_init (C : Cx G) {x dx : Addr} {a b c : V} {Q : V → Store → Prop} (hx : σ x = some (.ins 391 dx)) (hd : σ dx = some (.ns [] [])) (hq : Q .none (upd σ dx (.ns rnNs [a, b, c, .none]))) :
    CallC G 1 (.ref 388) [.ref x, a, b, c] σ Q X := by
  refine call_fnC (n := 0) (fnO (ps := ["self", "items", "at", "is_folded"]) C rfl rfl rfl rfl (bt4 fun _ _ _ _ _ => .of_eq rfl)) (by decide) (by decide) rfl fun L hL => ?_
  have hdL := ne_of hd hL
  have hxd : x ≠ dx := by rintro rfl; rw [hx] at hd; cases hd
  have h0 : upd σ L .mark x = some (.ins 391 dx) := upd_out hx hL
  have up : ∀ {τ : Store} {m}, τ x = some (.ins 391 dx) → upd τ dx m x = some (.ins 391 dx) := fun h => by rw [upd_ne _ _ hxd]; exact h
  refine ex_cons (set_self C (vs := []) rfl (by decide) (by decide) (ev_local rfl (ev_local rfl ⟨rfl, h0, upd_out hd hL, ?_⟩)))
  refine ex_cons (set_self C rfl (by decide) (by decide) (ev_local rfl (ev_local rfl ⟨rfl, up h0, upd_eq .., ?_⟩)))
  refine ex_cons (set_self C rfl (by decide) (by decide) (ev_local rfl (ev_local rfl ⟨rfl, up (up h0), upd_eq .., ?_⟩)))
  refine ex_cons (set_self C rfl (by decide) (by decide) (ev_none (ev_local rfl ⟨rfl, up (up (up h0)), upd_eq .., ?_⟩)))
  refine ex_nil ?_
  show Q .none (era (upd (upd (upd (upd (upd σ L .mark) dx _) dx _) dx _) dx (.ns rnNs [a, b, c, .none])) L)
  rw [upd_upd, upd_upd, upd_upd, era_comm hdL, era_upd hL]
  exact hq
theorem c_Run (C : Cx G) {a b c : V} {Q : V → Store → Prop} (hq : ∀ x dx, σ x = none → σ dx = none → x ≠ dx → Q (.ref x) (upd (upd σ dx (.ns rnNs [a, b, c, .none])) x (.ins 391 dx))) : CallW G 2 (.ref 391) [a, b, c] σ Q X := by
  refine (call_clsC (n := 1) (m_Run C) fun x dx hx hdx hne => k_Run_init C (upd_eq ..) ((upd_ne _ _ hne.symm).trans (upd_eq ..)) ⟨rfl, ?_⟩).w
  rw [upd_fill hne]; exact hq x dx hx hdx hne
theorem c_run_task (C : Cx G) {a b c : V} {Q : V → Store → Prop} (hq : ∀ x dx, σ x = none → σ dx = none → x ≠ dx → Q (.tup [.str "run", .ref x]) (upd (upd σ dx (.ns rnNs [a, b, c, .none])) x (.ins 391 dx))) : CallW G 3 (.ref 402) [a, b, c] σ Q X := by
  refine call_fn (n := 2) (fnO (ps := ["items", "at", "is_folded"]) C rfl rfl rfl rfl (bt3 fun _ _ _ _ => .of_eq rfl)) (by decide) (by decide) rfl fun L hL => ?_
  refine ex_cons <| ex_return <| ev_tuple <| evs_cons <| ev_strC (by kernel_rfl) <| evs_cons (gcall (n := 2) (g_ItemRun C) (keep_cls (m_Run C)) rfl (by decide) rfl <| evs_cons <| ev_local rfl <| evs_cons <| ev_local rfl <| evs_cons <| ev_local rfl <| evs_nil <| c_Run C fun x dx hx hdx hne => evs_nil ⟨by first | exact Nat.le_of_ble_eq_true rfl | simp, ?_⟩)
  have hxL : x ≠ L := by rintro rfl; rw [upd_eq] at hx; cases hx
  have hdL : dx ≠ L := by rintro rfl; rw [upd_eq] at hdx; cases hdx
  show Q _ (era (upd (upd (upd σ L .mark) dx _) x _) L)
  rw [era_comm hxL, era_comm hdL, era_upd hL]
  exact hq x dx (by rw [upd_ne _ _ hxL] at hx; exact hx) (by rw [upd_ne _ _ hdL] at hdx; exact hdx) hne

inductive JnkR (Q : V → Store → Prop) (r : V) (σ' : Store) : Prop | mk (a : Addr) (mo : MObj) (h1 : σ' a = some mo) (h2 : mo ≠ .mark) (h3 : ∀ v, mo ≠ .cell v) (q : Q r (era σ' a))
/-- a junk list of the store is let go -/
theorem callW_junk {n : Nat} {f : Value} {args : List V} {Q : V → Store → Prop} (h : CallW G n f args σ (JnkR Q) X) : CallW G n f args σ Q X := fun md A env m loc s vals h1 h2 h3 h4 =>
  wpAny_mono (h md A env m loc s vals h1 h2 h3 h4) (fun v s' ⟨r, σ1, ⟨a, mo, ha, k1, k2, hq⟩, hr, ha2, hs⟩ => ⟨r, era σ1 a, hq, hr.mono (era_mono (P := G.P) a), ha2.trans (era_after ha k1 k2), era_sim hs a⟩) fun _ _ z => z
end
end Mine
end

section
namespace Mine
/-- an item of a body: a token, or a branch of items -/
inductive It where
  | tok (sort text : Str) (val : V) (row col : Int)
  | br (l : List It) (row col : Int)
mutual
noncomputable def itV : It → V
  | .tok s t v r c => tokV s t v r c
  | .br l r c => .obj 223 ["items", "row", "column"] [.lst (itVs l), .int r, .int c]
noncomputable def itVs : List It → List V
  | [] => []
  | x :: xs => itV x :: itVs xs
end
theorem itVs_map : ∀ l : List It, itVs l = l.map itV
  | [] => by rw [itVs]; rfl
  | x :: xs => by rw [itVs, itVs_map xs]; rfl
theorem itVs_len (l : List It) : (itVs l).length = l.length := by rw [itVs_map, List.length_map]
theorem itVs_get {l : List It} {i : Nat} {x : It} (h : l[i]? = some x) : (itVs l)[i]? = some (itV x) := by rw [itVs_map, List.getElem?_map, h]; rfl
theorem itV_tok {s t : Str} {v : V} {r c : Int} : itV (.tok s t v r c) = tokV s t v r c := by rw [itV]
theorem itV_br {l : List It} {r c : Int} : itV (.br l r c) = .obj 223 ["items", "row", "column"] [.lst (itVs l), .int r, .int c] := by rw [itV]
noncomputable def isBr : It → Bool
  | .br .. => true
  | _ => false
noncomputable def itRow : It → Int
  | .tok _ _ _ r _ => r
  | .br _ r _ => r
noncomputable def itCol : It → Int
  | .tok _ _ _ _ c => c
  | .br _ _ c => c
/-- what «refuse» raises -/
noncomputable def refI (why : Str) : It → Exn
  | .tok s _ _ r c => xBT (refWhy why s) r c
  | .br _ r c => xBT why r c
noncomputable def hiP (l : List It) (i : Nat) : Bool := match l[i]? with
  | some (.tok s ..) => hiB s
  | _ => false
/-- the identifier at this place -/
noncomputable def idAt (l : List It) (i : Nat) : Option Str := match l[i]? with
  | some (.tok s t ..) => if s = "id" then some t else none
  | _ => none
section
variable {G : Gd} {md : Md} {loc : Loc} {σ : Store} {X : Exn → Prop}
theorem i_BB (C : Cx G) : IsiAt G 223 223 true := ⟨_, C.k, by kernel_rfl⟩
theorem i_BT (C : Cx G) : IsiAt G 223 195 false := ⟨_, C.k, by kernel_rfl⟩

theorem isi_br (C : Cx G) {e : Expr} {p1 p2 p3 : Pos} {x : It} {Q : V → Store → Prop} (hd : md.hd = none) (h1 : md.sc.lookup ("isinstance" : Str) = some .globalImplicit) (h2 : md.sc.lookup ("Branch" : Str) = some .globalImplicit)
    (h : EvW G md e loc σ (EqBR (itV x) (isBr x) Q) X) (hn : notStar e = true := by rfl) : EvW G md (.Call (.Name "isinstance" p1) [e, .Name "Branch" p2] [] p3) loc σ Q X := by
  refine bcall (b_isinstance C) rfl (keep_builtin _) h1 hd (evs_cons (h.mono (fun v σ1 ⟨hv, hq⟩ => evs_cons (ev_global (g_Branch C) h2 (evs_nil ?_))) fun _ z => z) hn) (by decide) (by rw [List.all_cons, hn]; rfl)
  subst hv
  cases x with
  | tok s t v r c => rw [itV_tok]; exact bi_isi_obj C.ok rfl (i_TB C) hq
  | br l r c => rw [itV_br]; exact bi_isi_obj C.ok rfl (i_BB C) hq

/-- «items[at]» -/
theorem ev_item {x y : Str} {p1 p2 p3 : Pos} {i : Nat} {v : V} {l : List It} {t : It} {Q : V → Store → Prop} (hx : loc.lookup x = some (.val v)) (hy : loc.lookup y = some (.val (.int i))) (hl : lk σ v = .lst (itVs l)) (hz : l.length ≤ 2 ^ 20) (ht : l[i]? = some t) (hq : Q (itV t) σ)
    (d1 : (x == ("__debug__" : Str)) = false := by decide) (d2 : (y == ("__debug__" : Str)) = false := by decide) : EvW G md (.Subscript (.Name x p1) (.Name y p2) p3) loc σ Q X :=
  ev_sub (ev_local hx (ev_local hy (item_tok hl (by rw [itVs_len]; exact hz) (itVs_get ht) hq) d2) d1)

theorem c_hi (C : Cx G) {l : List It} {i : Nat} {Q : V → Store → Prop} (hz : l.length ≤ 2 ^ 20) (hq : Q (.bool (hiP l i)) σ) : CallW G 1 (.ref 325) [.lst (itVs l), .int i] σ Q X := by
  cases h : l[i]? with
  | none => exact c_hi_none C rfl (by rw [itVs_len]; exact hz) (by rw [itVs_len]; exact List.getElem?_eq_none_iff.mp h) (by unfold hiP at hq; rw [h] at hq; exact hq)
  | some x =>
    cases x with
    | tok s t v r c => exact c_hi_some C (by rw [itVs_len]; exact hz) (itVs_get h |>.trans (by rw [itV_tok])) (by unfold hiP at hq; rw [h] at hq; exact hq)
    | br l' r c =>
      have hi := (List.getElem?_eq_some_iff.mp h).1
      refine call_fn (n := 0) (fnO (ps := ["items", "at"]) C rfl rfl rfl rfl (bt2 fun _ _ _ => .of_eq rfl)) (by decide) (by decide) rfl fun L hL => ?_
      refine ex_cons <| ex_return <| ev_and <| lt_lenV C rfl rfl rfl rfl (by rw [itVs_len]; exact hz) rfl ⟨_, rfl, iteT (by rw [itVs_len]; simpa using hi) ?_⟩
      refine ev_and <| ev_not <| isi_br C rfl rfl rfl <| ev_item rfl rfl rfl hz h ⟨rfl, true, rfl, false, rfl, iteF rfl ?_⟩
      show Q _ (era (upd σ L .mark) L)
      rw [era_upd hL]; unfold hiP at hq; rw [h] at hq; exact hq

theorem c_ref (C : Cx G) {why : Str} {x : It} {Q : V → Store → Prop} (hx : X (refI why x)) : CallW G 7 (.ref 292) [.str why, itV x] σ Q X := by
  cases x with
  | tok s t v r c => rw [itV_tok]; exact c_refuse C hx
  | br l r c =>
    rw [itV_br]
    refine call_fn (n := 6) (fnO (ps := ["why", "item"]) C rfl rfl rfl rfl (bt2 fun _ _ _ => .of_eq rfl)) (by decide) (by decide) rfl fun L hL => ?_
    refine ex_cons <| ex_if <| ts_and <| ts_cmp <| ev_local rfl <| ev_strC (by kernel_rfl) ⟨_, cmp_str _ _, ?_⟩
    have last : ∀ {p1 p2 p3 p4 p5 p6 p7 p8} {Q'}, Ex1 G ⟨6, none, [("why", .local), ("item", .local), ("isinstance", .globalImplicit), ("Branch", .globalImplicit), ("BadText", .globalImplicit)]⟩ (.Raise (some (.Call (.Name "BadText" p1) [.Name "why" p2, .Attribute (.Name "item" p3) "row" p4, .Attribute (.Name "item" p5) "column" p6] [] p7)) none p8)
        ((["why", "item"] : List Str).zip ([V.str why, .obj 223 ["items", "row", "column"] [.lst (itVs l), .int r, .int c]].map .val)) (upd σ L .mark) Q' X := by
      intros
      refine raise_BT C rfl (Nat.le_refl _) rfl <| evs_cons <| ev_local rfl <| evs_cons <| ev_attr <| ev_local rfl ⟨223, _, _, _, _, rfl, by rw [C.cls]; rfl, by decide, rfl, rfl, ?_⟩
      exact evs_cons <| ev_attr <| ev_local rfl ⟨223, _, _, _, _, rfl, by rw [C.cls]; rfl, by decide, rfl, rfl, evs_nil ⟨_, _, _, rfl, rfl, hx⟩⟩
    by_cases h1 : why = "unexpected token"
    · refine iteT (by first | exact decide_eq_true (by assumption) | exact decide_eq_false (by assumption) | exact ndF (by assumption) | exact ndT (by assumption)) ?_
      refine ts_and <| ts_not <| ts_plain <| isi_br (x := .br l r c) C rfl rfl rfl <| ev_local rfl ⟨by rw [itV_br], true, rfl, iteF rfl <| iteF rfl <| ex_nil <| ex_cons last⟩
    · exact iteF (by first | exact decide_eq_true (by assumption) | exact decide_eq_false (by assumption) | exact ndF (by assumption) | exact ndT (by assumption)) <| iteF rfl <| ex_nil <| ex_cons last

theorem c_ia (C : Cx G) {l : List It} {i : Nat} {tk : It} {Q : V → Store → Prop} (hz : l.length ≤ 2 ^ 20)
    (hq : ∀ x, hiP l i = true → l[i]? = some x → Q (itV x) σ) (hx : hiP l i = false → X (refI "unexpected token" (l[i]?.getD tk))) : CallW G 9 (.ref 332) [.lst (itVs l), .int i, itV tk] σ Q X := by
  refine call_fn (n := 8) (fnO (ps := ["items", "at", "token"]) C rfl rfl rfl rfl (bt3 fun _ _ _ _ => .of_eq rfl)) (by decide) (by decide) rfl fun L hL => ?_
  refine ex_cons <| ex_if <| ts_not <| ts_plain <| gcall (n := 1) (g_has_index C) (keepF C rfl) rfl (by decide) rfl <| evs_cons <| ev_local rfl <| evs_cons <| ev_local rfl <| evs_nil <| c_hi C hz ⟨_, rfl, ?_⟩
  cases hb : hiP l i with
  | true =>
    refine iteF rfl <| ex_nil ?_
    cases h : l[i]? with
    | none => unfold hiP at hb; rw [h] at hb; cases hb
    | some x =>
      refine ex_cons <| ex_return <| ev_item rfl rfl rfl hz h ?_
      show Q _ (era (upd σ L .mark) L)
      rw [era_upd hL]; exact hq x hb h
  | false =>
    refine iteT rfl <| ex_cons <| ex_expr <| gcall (n := 7) (g_refuse C) (keepF C rfl) rfl (by decide) rfl <| evs_cons <| ev_strC (by kernel_rfl) <| evs_cons <| ev_ifexp <| lt_len C rfl rfl rfl rfl (by rw [itVs_len]; exact hz) rfl ?_
    have hx := hx hb
    cases h : l[i]? with
    | none =>
      rw [h] at hx
      exact iteF (by rw [itVs_len]; simpa using List.getElem?_eq_none_iff.mp h) (ev_local rfl <| evs_nil <| c_ref C hx)
    | some x =>
      rw [h] at hx
      have hi := (List.getElem?_eq_some_iff.mp h).1
      exact iteT (by rw [itVs_len]; simpa using hi) (ev_item rfl rfl rfl hz h <| evs_nil <| c_ref C hx)

/-- a label's identifier -/
theorem k_told (C : Cx G) {slf : V} {l : List It} {i : Nat} {s w : Str} {v : V} {r c : Int} {Q : V → Store → Prop} (hz : l.length ≤ 2 ^ 20)
    (hq : ∀ x dx, σ x = none → σ dx = none → x ≠ dx → Q (.tup [.ref x, .int ((i + (if (idAt l i).isSome then 1 else 0) : Nat) : Int)]) (upd (upd σ dx (.ns lbNs [.str ((idAt l i).getD ""), .str w, tokV s w v r c, .bool false])) x (.ins 370 dx))) :
    CallW G 3 (.ref 486) [slf, tokV s w v r c, .lst (itVs l), .int i] σ Q X := by
  refine call_fn (n := 2) (fnO (ps := ["self", "token", "items", "at"]) C rfl rfl rfl rfl (bt4 fun _ _ _ _ _ => .of_eq rfl)) (by decide) (by decide) rfl fun L hL => ?_
  have fin : ∀ x dx id (k : Int), upd σ L .mark x = none → upd σ L .mark dx = none → x ≠ dx → id = (idAt l i).getD "" → k = ((i + (if (idAt l i).isSome then 1 else 0) : Nat) : Int) → Q (.tup [.ref x, .int k]) (era (upd (upd (upd σ L .mark) dx (.ns lbNs [.str id, .str w, tokV s w v r c, .bool false])) x (.ins 370 dx)) L) := by
    rintro x dx _ _ hx hdx hne rfl rfl
    have hxL : x ≠ L := by rintro rfl; rw [upd_eq] at hx; cases hx
    have hdL : dx ≠ L := by rintro rfl; rw [upd_eq] at hdx; cases hdx
    rw [era_comm hxL, era_comm hdL, era_upd hL]
    exact hq x dx (by rw [upd_ne _ _ hxL] at hx; exact hx) (by rw [upd_ne _ _ hdL] at hdx; exact hdx) hne
  have none_ : ∀ {p1 p2 p3 p4 p5 p6 p7 p8 p9 k1 k2} {Q' : Flw → Loc → Store → Prop}, idAt l i = none → (∀ x dx, upd σ L .mark x = none → upd σ L .mark dx = none → x ≠ dx → Q' (.ret (.tup [.ref x, .int i])) ((["self", "token", "items", "at"] : List Str).zip ([slf, tokV s w v r c, .lst (itVs l), .int i].map .val)) (upd (upd (upd σ L .mark) dx (.ns lbNs [.str "", .str w, tokV s w v r c, .bool false])) x (.ins 370 dx))) →
      ExW G ⟨2, none, [("self", .local), ("token", .local), ("items", .local), ("at", .local), ("len", .globalImplicit), ("isinstance", .globalImplicit), ("Branch", .globalImplicit), ("Label", .globalImplicit)]⟩
        [.Return (some (.Tuple [.Call (.Name "Label" p1) [.Constant (.str "") k1 p2, .Attribute (.Name "token" p3) "text" p4, .Name "token" p5] [] p6, .Name "at" p7] k2 p8)) p9] ((["self", "token", "items", "at"] : List Str).zip ([slf, tokV s w v r c, .lst (itVs l), .int i].map .val)) (upd σ L .mark) Q' X := by
    intro p1 p2 p3 p4 p5 p6 p7 p8 p9 k1 k2 Q' h0 hf
    refine ex_cons <| ex_return <| ev_tuple <| evs_cons (gcall (n := 2) (g_Label C) (keep_cls (m_Label C)) rfl (by decide) rfl <| evs_cons <| ev_strC (by kernel_rfl) <| evs_cons <| ev_ta C (by decide) <| ev_local rfl ⟨_, _, _, _, _, _, rfl, rfl, rfl, ?_⟩)
    exact evs_cons <| ev_local rfl <| evs_nil <| c_Label C fun x dx hx hdx hne => evs_cons <| ev_local rfl <| evs_nil ⟨by first | exact Nat.le_of_ble_eq_true rfl | simp, hf x dx hx hdx hne⟩
  have fin0 : idAt l i = none → ∀ x dx, upd σ L .mark x = none → upd σ L .mark dx = none → x ≠ dx → Q (.tup [.ref x, .int i]) (era (upd (upd (upd σ L .mark) dx (.ns lbNs [.str "", .str w, tokV s w v r c, .bool false])) x (.ins 370 dx)) L) := fun h0 x dx hx hdx hne => fin x dx _ _ hx hdx hne (by rw [h0]; rfl) (by rw [h0]; rfl)
  refine ex_cons <| ex_if <| ts_and <| lt_len C rfl rfl rfl rfl (by rw [itVs_len]; exact hz) rfl ?_
  cases h : l[i]? with
  | none =>
    have h0 : idAt l i = none := by unfold idAt; rw [h]
    exact iteF (by rw [itVs_len]; simpa using List.getElem?_eq_none_iff.mp h) <| iteF rfl <| ex_nil <| none_ h0 (fin0 h0)
  | some x =>
    have hi := (List.getElem?_eq_some_iff.mp h).1
    refine iteT (by rw [itVs_len]; simpa using hi) ?_
    refine ts_and <| ts_not <| ts_plain <| isi_br C rfl rfl rfl <| ev_item rfl rfl rfl hz h ⟨rfl, _, rfl, ?_⟩
    cases x with
    | br l' r' c' =>
      have h0 : idAt l i = none := by unfold idAt; rw [h]
      exact iteF rfl <| iteF rfl <| ex_nil <| none_ h0 (fin0 h0)
    | tok s' t' v' r' c' =>
      refine iteT rfl <| ts_and <| ts_cmp <| ev_ta C (by decide) <| ev_item rfl rfl rfl hz h ⟨s', t', v', r', c', _, itV_tok, rfl, rfl, ev_strC (by kernel_rfl) ⟨_, cmp_str _ _, ?_⟩⟩
      by_cases hs : s' = "id"
      · have h0 : idAt l i = some t' := by unfold idAt; rw [h]; exact if_pos hs
        refine iteT (by first | exact decide_eq_true (by assumption) | exact decide_eq_false (by assumption) | exact ndF (by assumption) | exact ndT (by assumption)) <| ts_and_nil <| iteT rfl ?_
        refine ex_cons <| ex_return <| ev_tuple <| evs_cons (gcall (n := 2) (g_Label C) (keep_cls (m_Label C)) rfl (by decide) rfl <| evs_cons <| ev_ta C (by decide) <| ev_item rfl rfl rfl hz h ⟨s', t', v', r', c', _, itV_tok, rfl, rfl, ?_⟩)
        refine evs_cons <| ev_ta C (by decide) <| ev_local rfl ⟨_, _, _, _, _, _, rfl, rfl, rfl, ?_⟩
        refine evs_cons <| ev_local rfl <| evs_nil <| c_Label C fun x dx hx hdx hne => ?_
        refine evs_cons (ev_bin <| ev_local rfl <| ev_int ⟨_, .add _ _, evs_nil ⟨by first | exact Nat.le_of_ble_eq_true rfl | simp, ?_⟩⟩)
        exact fin x dx _ _ hx hdx hne (by rw [h0]; rfl) (by rw [h0]; rfl)
      · have h0 : idAt l i = none := by unfold idAt; rw [h]; exact if_neg hs
        exact iteF (by first | exact decide_eq_true (by assumption) | exact decide_eq_false (by assumption) | exact ndF (by assumption) | exact ndT (by assumption)) <| iteF rfl <| ex_nil <| none_ h0 (fin0 h0)
end
end Mine
end

section
namespace Mine
noncomputable def headL (l : List It) : Str := match l[(0 : Nat)]? with
  | some (.tok s t ..) => if s = "word" then t else ""
  | _ => ""
noncomputable def headP : It → Str
  | .tok .. => ""
  | .br l _ _ => headL l
section
variable {G : Gd} {md : Md} {loc : Loc} {σ : Store} {X : Exn → Prop}
theorem i_NT (C : Cx G) : IsiNone G 195 := ⟨_, C.k, by kernel_rfl⟩
theorem m_head (C : Cx G) : MethAt G 223 "head" 220 := ⟨_, C.k, by kernel_rfl⟩

inductive BaR (name : Str) (Q : V → Store → Prop) (x : V) (σ1 : Store) : Prop | mk (l : List It) (row col : Int) (u : V) (h1 : x = itV (.br l row col)) (h2 : getF brNs [.lst (itVs l), .int row, .int col] name = some u) (h3 : plainV u = true) (q : Q u σ1)
/-- a field of a branch -/
theorem ev_ba (C : Cx G) {e : Expr} {name : Str} {pos : Pos} {Q : V → Store → Prop} (hn : (["items", "row", "column"] : List Str).contains name = true)
    (h : EvW G md e loc σ (BaR name Q) X)
    (he : ∀ env, eval (.Attribute e name pos) env = (do
      let o ← eval e env
      standAt pos.atName
      let r ← holding [o] (getAttr o name true)
      letTemporaryGo e o r
      pure r) := by intro _; rfl) : EvW G md (.Attribute e name pos) loc σ Q X :=
  ev_attr (h.mono (fun x σ1 ⟨l, row, col, u, hx, hg, hp, hq⟩ => ⟨223, _, _, _, u, by rw [hx, itV_br]; rfl, by rw [C.cls]; rfl, hn, hg, hp, hq⟩) fun _ z => z) he

theorem k_head (C : Cx G) {l : List It} {row col : Int} {Q : V → Store → Prop} (hz : l.length ≤ 2 ^ 20) (hq : Q (.str (headP (.br l row col))) σ) : CallW G 1 (.ref 220) [itV (.br l row col)] σ Q X := by
  refine call_fn (n := 0) (fnO (ps := ["self"]) C rfl rfl rfl rfl (bt1 fun _ _ => .of_eq rfl)) (by decide) (by decide) rfl fun L hL => ?_
  have fin : ∀ v, v = V.str (headP (.br l row col)) → Q v (era (upd σ L .mark) L) := fun v e => by rw [era_upd hL, e]; exact hq
  refine ex_cons <| ex_assign (by rfl) <| ev_ifexp <| ts_cmp ?_
  refine bcall (b_len C) rfl (keep_builtin _) rfl rfl <| evs_cons (ev_ba C (by decide) <| ev_local rfl ⟨l, row, col, _, rfl, rfl, rfl, evs_nil ?_⟩)
  refine bi_len (n := (itVs l).length) rfl (by rw [itVs_len]; lia) <| ev_int ⟨decide ((0 : Int) < ((itVs l).length : Int)), rfl, ?_⟩
  rw [itVs_len]
  cases h : l[0]? with
  | none =>
    have h0 : l = [] := by simpa using h
    refine iteF (by simp [h0]) <| ev_none ?_
    refine ex_cons <| ex_return <| ev_ifexp <| ts_and <| ts_plain <| bcall (b_isinstance C) rfl (keep_builtin _) rfl rfl <| evs_cons <| ev_local rfl <| evs_cons <| ev_global (g_Token C) rfl <| evs_nil <| bi_isi_none (i_NT C) ⟨_, rfl, iteF rfl <| iteF rfl <| ev_strC (by kernel_rfl) (fin _ ?_)⟩
    show _ = V.str (headL l); unfold headL; rw [h]
  | some x =>
    have hi := (List.getElem?_eq_some_iff.mp h).1
    refine iteT (by simpa using hi) <| ev_sub <| ev_ba C (by decide) <| ev_local rfl ⟨l, row, col, _, rfl, rfl, rfl, ev_int ⟨itV x, .lst _ (itVs l) 0 _ rfl (by first | decide | (refine Nat.le_trans (by assumption) ?_; exact Nat.le_of_ble_eq_true rfl) | lia) (ixAt_nat (i := 0) (itVs_get h)), ?_⟩⟩
    cases x with
    | br l' r' c' =>
      refine ex_cons <| ex_return <| ev_ifexp <| ts_and <| ts_plain <| bcall (b_isinstance C) rfl (keep_builtin _) rfl rfl <| evs_cons <| ev_local rfl <| evs_cons <| ev_global (g_Token C) rfl <| evs_nil ?_
      rw [itV_br]
      refine bi_isi_obj C.ok rfl (i_BT C) ⟨_, rfl, iteF rfl <| iteF rfl <| ev_strC (by kernel_rfl) (fin _ ?_)⟩
      show _ = V.str (headL l); unfold headL; rw [h]
    | tok s t v r c =>
      refine ex_cons <| ex_return <| ev_ifexp <| ts_and <| ts_plain <| bcall (b_isinstance C) rfl (keep_builtin _) rfl rfl <| evs_cons <| ev_local rfl <| evs_cons <| ev_global (g_Token C) rfl <| evs_nil ?_
      rw [itV_tok]
      refine bi_isi_obj C.ok rfl (i_TT C) ⟨_, rfl, iteT rfl <| ts_and <| ts_cmp <| ev_ta C (by decide) <| ev_local rfl ⟨s, t, v, r, c, _, itV_tok, rfl, rfl, ev_strC (by kernel_rfl) ⟨_, cmp_str _ _, ?_⟩⟩⟩
      by_cases hs : s = "word"
      · refine iteT (by first | exact decide_eq_true (by assumption) | exact decide_eq_false (by assumption) | exact ndF (by assumption) | exact ndT (by assumption)) <| ts_and_nil <| iteT rfl <| ev_ta C (by decide) <| ev_local rfl ⟨s, t, v, r, c, _, itV_tok, rfl, rfl, fin _ ?_⟩
        show _ = V.str (headL l); unfold headL; rw [h]; exact congrArg V.str (if_pos hs).symm
      · refine iteF (by first | exact decide_eq_true (by assumption) | exact decide_eq_false (by assumption) | exact ndF (by assumption) | exact ndT (by assumption)) <| iteF rfl <| ev_strC (by kernel_rfl) (fin _ ?_)
        show _ = V.str (headL l); unfold headL; rw [h]; exact congrArg V.str (if_neg hs).symm

noncomputable def itOk : It → Bool
  | .br l _ _ => decide (l.length ≤ 2 ^ 20)
  | _ => true
theorem c_headI (C : Cx G) {x : It} {Q : V → Store → Prop} (hz : itOk x = true) (hq : Q (.str (headP x)) σ) : CallW G 2 (.ref 299) [itV x] σ Q X := by
  refine call_fn (n := 1) (fnO (ps := ["item"]) C rfl rfl rfl rfl (bt1 fun _ _ => .of_eq rfl)) (by decide) (by decide) rfl fun L hL => ?_
  have fin : ∀ v, v = V.str (headP x) → Q v (era (upd σ L .mark) L) := fun v e => by rw [era_upd hL, e]; exact hq
  refine ex_cons <| ex_return <| ev_ifexp <| ts_plain <| isi_br (x := x) C rfl rfl rfl <| ev_local rfl ⟨rfl, _, rfl, ?_⟩
  cases x with
  | tok s t v r c => exact iteF rfl <| ev_strC (by kernel_rfl) (fin _ rfl)
  | br l r c =>
    refine iteT rfl <| ev_method rfl <| ev_local rfl ⟨_, _, 1, .own 223 ["items", "row", "column"] [.lst (itVs l), .int r, .int c] 220 (by rw [itV_br]; rfl) (by decide) (m_head C), keepF C rfl, by decide, evs_nil ?_⟩
    refine k_head C (of_decide_eq_true hz) ?_
    exact fin _ rfl

/-- no block type: the empty one -/
theorem k_kind0 (C : Cx G) {slf : V} {l : List It} {i : Nat} {Q : V → Store → Prop} (hz : l.length ≤ 2 ^ 20) (ho : ∀ x, l[i]? = some x → itOk x = true ∧ headP x ≠ "result" ∧ headP x ≠ "type" ∧ headP x ≠ "param")
    (hq : Q (.tup [.int (-64), .int i]) σ) : CallW G 3 (.ref 493) [slf, .lst (itVs l), .int i] σ Q X := by
  refine call_fn (n := 2) (fnO (ps := ["self", "items", "at"]) C rfl rfl rfl rfl (bt3 fun _ _ _ _ => .of_eq rfl)) (by decide) (by decide) rfl fun L hL => ?_
  have fin : ∀ v, v = V.tup [.int (-64), .int i] → Q v (era (upd σ L .mark) L) := fun v e => by rw [era_upd hL, e]; exact hq
  refine ex_cons <| ex_assign_tup (ns := ["behind", "kinds", "has_params", "has_results"]) (o := none) rfl rfl (by decide) (by rfl) (.inl rfl) ?_
  refine ev_tuple <| evs_cons <| ev_local rfl <| evs_cons (ev_list <| evs_nil ⟨by decide, .inl ?_⟩)
  refine evs_cons <| ev_bool <| evs_cons <| ev_bool <| evs_nil ⟨by first | exact Nat.le_of_ble_eq_true rfl | simp, _, rfl, rfl, ?_⟩
  rw [if_pos rfl]
  refine ex_cons <| ex_while 1 ?_
  refine lt_len C rfl rfl rfl rfl (by rw [itVs_len]; exact hz) rfl ?_
  cases h : l[i]? with
  | none =>
    refine iteF (by rw [itVs_len]; simpa using List.getElem?_eq_none_iff.mp h) ?_
    refine ex_cons <| ex_if <| ts_and <| ts_not <| ts_plain <| ev_local rfl ⟨_, rfl, iteT rfl ?_⟩
    refine ts_and <| ts_cmp <| bcall (b_len C) rfl (keep_builtin _) rfl rfl <| evs_cons <| ev_local rfl <| evs_nil <| bi_len (n := 0) rfl (by first | decide | (refine Nat.le_trans (by assumption) ?_; exact Nat.le_of_ble_eq_true rfl) | lia) <| ev_int ⟨true, rfl, iteT rfl <| ts_and_nil <| iteT rfl ?_⟩
    refine ex_cons <| ex_return <| ev_tuple <| evs_cons (ev_ifexp <| ts_cmp <| bcall (b_len C) rfl (keep_builtin _) rfl rfl <| evs_cons <| ev_local rfl <| evs_nil <| bi_len (n := 0) rfl (by first | decide | (refine Nat.le_trans (by assumption) ?_; exact Nat.le_of_ble_eq_true rfl) | lia) <| ev_int ⟨false, by rw [cmp_int]; rfl, iteF rfl <| ev_global (g_EMPTY C) rfl ?_⟩)
    exact evs_cons <| ev_local rfl <| evs_nil ⟨by first | exact Nat.le_of_ble_eq_true rfl | simp, fin _ rfl⟩
  | some x =>
    have hi := (List.getElem?_eq_some_iff.mp h).1
    obtain ⟨h0, h1, h2, h3⟩ := ho x h
    refine iteT (by rw [itVs_len]; simpa using hi) ?_
    refine ex_cons <| ex_assign (by rfl) <| gcall (n := 2) (g_head_of C) (keepF C rfl) rfl (by decide) rfl <| evs_cons <| ev_item rfl rfl rfl hz h <| evs_nil <| c_headI C h0 ?_
    refine ex_cons <| ex_if <| ts_cmp <| ev_local rfl <| ev_strC (by kernel_rfl) ⟨_, cmp_str _ _, iteF (by first | exact decide_eq_true (by assumption) | exact decide_eq_false (by assumption) | exact ndF (by assumption) | exact ndT (by assumption)) ?_⟩
    refine ex_cons <| ex_if <| ts_or <| ts_and <| ts_cmp <| ev_local rfl <| ev_strC (by kernel_rfl) ⟨_, cmp_str _ _, iteF (by first | exact decide_eq_true (by assumption) | exact decide_eq_false (by assumption) | exact ndF (by assumption) | exact ndT (by assumption)) <| iteF rfl ?_⟩
    refine ts_or <| ts_and <| ts_cmp <| ev_local rfl <| ev_strC (by kernel_rfl) ⟨_, cmp_str _ _, iteF (by first | exact decide_eq_true (by assumption) | exact decide_eq_false (by assumption) | exact ndF (by assumption) | exact ndT (by assumption)) <| iteF rfl <| ts_or_nil <| iteF rfl ?_⟩
    refine ex_cons <| ex_break ?_
    refine ex_cons <| ex_if <| ts_and <| ts_not <| ts_plain <| ev_local rfl ⟨_, rfl, iteT rfl ?_⟩
    refine ts_and <| ts_cmp <| bcall (b_len C) rfl (keep_builtin _) rfl rfl <| evs_cons <| ev_local rfl <| evs_nil <| bi_len (n := 0) rfl (by first | decide | (refine Nat.le_trans (by assumption) ?_; exact Nat.le_of_ble_eq_true rfl) | lia) <| ev_int ⟨true, rfl, iteT rfl <| ts_and_nil <| iteT rfl ?_⟩
    refine ex_cons <| ex_return <| ev_tuple <| evs_cons (ev_ifexp <| ts_cmp <| bcall (b_len C) rfl (keep_builtin _) rfl rfl <| evs_cons <| ev_local rfl <| evs_nil <| bi_len (n := 0) rfl (by first | decide | (refine Nat.le_trans (by assumption) ?_; exact Nat.le_of_ble_eq_true rfl) | lia) <| ev_int ⟨false, by rw [cmp_int]; rfl, iteF rfl <| ev_global (g_EMPTY C) rfl ?_⟩)
    exact evs_cons <| ev_local rfl <| evs_nil ⟨by first | exact Nat.le_of_ble_eq_true rfl | simp, fin _ rfl⟩
end
end Mine
end

section
namespace Mine
/-- a label as the reader keeps it -/
structure Lb where
  name : Str
  word : Str
  tok : It
  els : Bool
noncomputable def lbVs (p : Lb) : List V := [.str p.name, .str p.word, itV p.tok, .bool p.els]
noncomputable def LbAt (σ : Store) (p : Addr × Addr × Lb) : Prop := σ p.1 = some (.ins 370 p.2.1) ∧ σ p.2.1 = some (.ns lbNs (lbVs p.2.2))
structure RA where
  r : Addr
  d : Addr
  t : Addr
  b : Addr
  l : Addr
/-- the reader's state -/
structure RS (σ : Store) (R : RA) (ids : V) (T B : List V) (as : List (Addr × Addr × Lb)) : Prop where
  ins : σ R.r = some (.ins 564 R.d)
  ns : σ R.d = some (.ns rdNs [.none, ids, .ref R.b, .ref R.l, .ref R.t])
  tt : σ R.t = some (.lst T)
  bb : σ R.b = some (.lst B)
  ll : σ R.l = some (.lst (as.map fun p => V.ref p.1))
  ne : R.b ≠ R.l ∧ R.b ≠ R.t ∧ R.l ≠ R.t
  lbs : ∀ p ∈ as, LbAt σ p
  nd : (as.map (·.2.1)).Nodup
theorem LbAt.mono {σ σ' : Store} {p : Addr × Addr × Lb} (h : LbAt σ p) (k : ∀ a m, σ a = some m → σ' a = some m) : LbAt σ' p := ⟨k _ _ h.1, k _ _ h.2⟩
theorem RS.mono {σ σ' : Store} {R : RA} {ids : V} {T B : List V} {as : List (Addr × Addr × Lb)} (h : RS σ R ids T B as) (k : ∀ a m, σ a = some m → m ≠ .mark → σ' a = some m) : RS σ' R ids T B as :=
  ⟨k _ _ h.ins (by nofun), k _ _ h.ns (by nofun), k _ _ h.tt (by nofun), k _ _ h.bb (by nofun), k _ _ h.ll (by nofun), h.ne, fun p hp => ⟨k _ _ (h.lbs p hp).1 (by nofun), k _ _ (h.lbs p hp).2 (by nofun)⟩, h.nd⟩
theorem RS.upd {σ : Store} {R : RA} {ids : V} {T B : List V} {as : List (Addr × Addr × Lb)} (h : RS σ R ids T B as) {L : Addr} {m : MObj} (hL : σ L = none) : RS (upd σ L m) R ids T B as := h.mono fun a m' e _ => upd_out e hL
theorem RS.look {σ : Store} {R : RA} {ids : V} {T B : List V} {as : List (Addr × Addr × Lb)} (h : RS σ R ids T B as) : look σ (.ref R.r) = some (564, rdNs, [.none, ids, .ref R.b, .ref R.l, .ref R.t]) := by
  unfold Mine.look; simp only [h.ins, h.ns]
theorem LbAt.look {σ : Store} {p : Addr × Addr × Lb} (h : LbAt σ p) : look σ (.ref p.1) = some (370, lbNs, lbVs p.2.2) := by
  unfold Mine.look; simp only [h.1, h.2]
theorem lk_ref {σ : Store} {a : Addr} {l : List V} (h : σ a = some (.lst l)) : lk σ (.ref a) = .lst l := by unfold lk; simp only [h]
noncomputable def ItOk : It → Prop
  | .tok s t v _ _ => t.length ≤ 1000 ∧ (s = "int" → ∃ n c, v = .int n ∧ t.cps.toList[(0 : Nat)]? = some c)
  | .br l _ _ => l.length ≤ 2 ^ 20
theorem ItOk.ok {x : It} (h : ItOk x) : itOk x = true := by
  cases x with
  | tok => rfl
  | br l r c => exact decide_eq_true h
noncomputable def intOfV : V → Int
  | .int n => n
  | _ => 0
/-- a label's number, or what is raised -/
noncomputable def labelR (names : List Str) : It → Except Exn Int
  | .tok s t v r c => if s = "int" then (if signB t = true then .error (xBT "unexpected token" r c) else
      if 2 ^ 32 ≤ intOfV v then .error (xBT "i32 constant out of range" r c) else .ok (intOfV v))
    else match idxS names.reverse t with
      | some k => .ok k
      | none => .error (xBT (refWhy ("unknown label " ++ t) s) r c)
  | .br .. => .ok 0
theorem labelR_1 {names : List Str} {t : Str} {v : V} {r c : Int} (h : signB t = true) : labelR names (.tok "int" t v r c) = .error (xBT "unexpected token" r c) := by
  rw [labelR, if_pos rfl, if_pos h]
theorem labelR_2 {names : List Str} {t : Str} {n r c : Int} (h : signB t = false) (h2 : 2 ^ 32 ≤ n) : labelR names (.tok "int" t (.int n) r c) = .error (xBT "i32 constant out of range" r c) := by
  rw [labelR, if_pos rfl, if_neg (by rw [h]; decide)]; exact if_pos h2
theorem labelR_3 {names : List Str} {t : Str} {n r c : Int} (h : signB t = false) (h2 : n < 2 ^ 32) : labelR names (.tok "int" t (.int n) r c) = .ok n := by
  rw [labelR, if_pos rfl, if_neg (by rw [h]; decide)]; exact if_neg (show ¬ 2 ^ 32 ≤ n by lia)
theorem labelR_4 {names : List Str} {s t : Str} {v : V} {r c : Int} {k : Nat} (hs : s ≠ "int") (h : idxS names.reverse t = some k) : labelR names (.tok s t v r c) = .ok k := by
  rw [labelR, if_neg hs, h]
theorem labelR_5 {names : List Str} {s t : Str} {v : V} {r c : Int} (hs : s ≠ "int") (h : idxS names.reverse t = none) : labelR names (.tok s t v r c) = .error (xBT (refWhy ("unknown label " ++ t) s) r c) := by
  rw [labelR, if_neg hs, h]
noncomputable def isIx : It → Bool
  | .tok s .. => hiB s
  | _ => false
noncomputable def runIx (l : List It) (i : Nat) : List It := (l.drop i).takeWhile isIx
theorem runIx_cons {l : List It} {i : Nat} {x : It} {xs : List It} (h : runIx l i = x :: xs) : l[i]? = some x ∧ hiP l i = true ∧ runIx l (i + 1) = xs := by
  unfold runIx at h
  cases hi : l[i]? with
  | none => rw [List.drop_eq_nil_of_le (by simpa using hi)] at h; simp at h
  | some y =>
    obtain ⟨hl, he⟩ := List.getElem?_eq_some_iff.mp hi
    rw [List.drop_eq_getElem_cons hl, he, List.takeWhile_cons] at h
    split at h
    · rename_i hy
      cases h
      refine ⟨rfl, ?_, rfl⟩
      unfold hiP; rw [hi]
      cases x with
      | tok s t v r c => exact hy
      | br => cases hy
    · cases h
theorem hiP_some {l : List It} {i : Nat} (h : hiP l i = true) : ∃ s t v r c, l[i]? = some (.tok s t v r c) ∧ hiB s = true := by
  unfold hiP at h
  split at h
  · rename_i s t v r c e; exact ⟨s, t, v, r, c, e, h⟩
  · cases h
theorem runIx_true {l : List It} {i : Nat} {x : It} (hx : l[i]? = some x) (h : hiP l i = true) : runIx l i = x :: runIx l (i + 1) := by
  obtain ⟨s, t, v, r, c, e, hs⟩ := hiP_some h
  rw [hx] at e; cases e
  unfold runIx
  obtain ⟨hl, he⟩ := List.getElem?_eq_some_iff.mp hx
  rw [List.drop_eq_getElem_cons hl, he, List.takeWhile_cons, if_pos (show isIx (.tok s t v r c) = true from hs)]
noncomputable def labelsR (names : List Str) : List It → Except Exn (List Int)
  | [] => .ok []
  | x :: xs => match labelR names x with
    | .error e => .error e
    | .ok n => match labelsR names xs with
      | .error e => .error e
      | .ok ns => .ok (n :: ns)
section
variable {G : Gd} {md : Md} {loc : Loc} {σ : Store} {X : Exn → Prop}

/-- a field of the reader -/
theorem ev_slf (C : Cx G) {x name : Str} {p pos : Pos} {R : RA} {ids u : V} {T B : List V} {as : List (Addr × Addr × Lb)} {Q : V → Store → Prop} (S : RS σ R ids T B as) (hx : loc.lookup x = some (.val (.ref R.r)))
    (hn : rdNs.contains name = true) (hg : getF rdNs [.none, ids, .ref R.b, .ref R.l, .ref R.t] name = some u) (hp : plainV u = true) (hq : Q u σ)
    (he : ∀ env, eval (.Attribute (.Name x p) name pos) env = (do
      let o ← eval (.Name x p) env
      standAt pos.atName
      let r ← holding [o] (getAttr o name true)
      letTemporaryGo (.Name x p) o r
      pure r) := by intro _; rfl) (hd : (x == ("__debug__" : Str)) = false := by decide) : EvW G md (.Attribute (.Name x p) name pos) loc σ Q X :=
  ev_attr (ev_local hx ⟨564, _, _, rdNs, u, S.look, by rw [C.cls]; rfl, hn, hg, hp, hq⟩ hd) he

theorem getL_rev {α : Type} {l : List α} {k : Nat} (h : k < l.length) : l[l.length - 1 - k]? = l.reverse[k]? := by
  rw [List.getElem?_reverse (by simpa using h)]
theorem k_label (C : Cx G) {R : RA} {ids : V} {T B : List V} {as : List (Addr × Addr × Lb)} {s t : Str} {v : V} {r c : Int} {Q : V → Store → Prop} (S : RS σ R ids T B as) (hz : as.length ≤ 1000) (hk : ItOk (.tok s t v r c))
    (hq : ∀ n, labelR (as.map (·.2.2.name)) (.tok s t v r c) = .ok n → Q (.int n) σ) (hx : ∀ e, labelR (as.map (·.2.2.name)) (.tok s t v r c) = .error e → X e) : CallW G 8 (.ref 535) [.ref R.r, tokV s t v r c] σ Q X := by
  refine call_fn (n := 7) (fnO (ps := ["self", "token"]) C rfl rfl rfl rfl (bt2 fun _ _ _ => .of_eq rfl)) (by decide) (by decide) rfl fun L hL => ?_
  have S' := S.upd (m := .mark) hL
  refine ex_cons <| ex_if <| ts_cmp <| ev_ta C (by decide) <| ev_local rfl ⟨_, _, _, _, _, _, rfl, rfl, rfl, ev_strC (by kernel_rfl) ⟨_, cmp_str _ _, ?_⟩⟩
  by_cases hs : s = "int"
  · subst hs
    obtain ⟨n, ch, rfl, hc⟩ := hk.2 rfl
    refine iteT (by simp) <| ex_cons <| ex_return <| gcall (n := 7) (g_u32_of C) (keepF C rfl) rfl (by decide) rfl <| evs_cons <| ev_local rfl <| evs_nil <| c_u32 C hc (fun h1 => hx _ ?_) (fun h1 h2 => hx _ ?_) fun h1 h2 => ?_
    · exact labelR_1 h1
    · exact labelR_2 h1 h2
    · show Q _ (era (upd σ L .mark) L)
      rw [era_upd hL]
      exact hq n (labelR_3 h1 h2)
  refine iteF (by first | exact decide_eq_true (by assumption) | exact decide_eq_false (by assumption) | exact ndF (by assumption) | exact ndT (by assumption)) <| ex_nil ?_
  refine ex_cons (ex_for rfl (by decide) <| iter_ev <| bcall (b_range C) rfl (keep_type _) rfl rfl <| evs_cons (bcall (b_len C) rfl (keep_builtin _) rfl rfl <| evs_cons (ev_slf C S' rfl (by decide) rfl rfl <| evs_nil <| bi_len (n := as.length) (by unfold lenV; rw [lk_ref S'.ll]; simp) (by first | decide | (refine Nat.le_trans (by assumption) ?_; exact Nat.le_of_ble_eq_true rfl) | lia) <| evs_nil <| bi_range ⟨_, .rng as.length (by first | decide | (refine Nat.le_trans (by assumption) ?_; exact Nat.le_of_ble_eq_true rfl) | lia), forL_n ?_⟩)))
  refine forL_ind (f := fun k : Nat => V.int k) (fun ks loc σ' => σ' = upd σ L .mark ∧ loc.lookup ("self" : Str) = some (.val (.ref R.r)) ∧ loc.lookup ("token" : Str) = some (.val (tokV s t v r c)) ∧
    ∃ k, ks = (List.range as.length).drop k ∧ k ≤ as.length ∧ idxS (as.map (·.2.2.name)).reverse t = (idxS ((as.map (·.2.2.name)).reverse.drop k) t).map (· + k)) ?_ ?_ (List.range as.length) _ _ ⟨rfl, rfl, rfl, 0, rfl, by lia, by simp⟩
  · rintro k ks loc σ' ⟨rfl, h1, h2, k', h3, h4, h5⟩
    have hk1 : k' < as.length := by
      rcases Nat.lt_or_ge k' as.length with h | h
      · exact h
      · rw [List.drop_eq_nil_of_le (by simpa using h)] at h3; cases h3
    rw [List.drop_eq_getElem_cons (by simpa using hk1), List.getElem_range] at h3
    cases h3
    obtain ⟨p, hp⟩ : ∃ p, as.reverse[k]? = some p := ⟨_, List.getElem?_eq_getElem (by simpa using hk1)⟩
    have hp' : as[as.length - 1 - k]? = some p := (getL_rev hk1).trans hp
    have hmem : p ∈ as := List.mem_of_getElem? hp'
    have hrev : (as.map (·.2.2.name)).reverse.drop k = p.2.2.name :: (as.map (·.2.2.name)).reverse.drop (k + 1) := by
      rw [← List.map_reverse]
      obtain ⟨hl, he⟩ := List.getElem?_eq_some_iff.mp hp
      rw [List.drop_eq_getElem_cons (by simpa using hk1), List.getElem_map, he]
    refine ⟨_, rfl, ?_⟩
    refine ex_cons <| ex_if <| ts_cmp <| ev_attr <| ev_sub <| ev_slf C S' h1 (by decide) rfl rfl ?_
    refine ev_bin <| ev_bin <| bcall (b_len C) rfl (keep_builtin _) rfl rfl <| evs_cons (ev_slf C S' h1 (by decide) rfl rfl <| evs_nil <| bi_len (n := as.length) (by unfold lenV; rw [lk_ref S'.ll]; simp) (by first | decide | (refine Nat.le_trans (by assumption) ?_; exact Nat.le_of_ble_eq_true rfl) | lia) <| ev_int ⟨_, .sub _ _, ev_local rfl ⟨_, .sub _ _, .ref p.1, ?_, ?_⟩⟩)
    · refine .lst _ (as.map fun p => V.ref p.1) _ _ (lk_ref S'.ll) (by first | decide | (refine Nat.le_trans (by assumption) ?_; exact Nat.le_of_ble_eq_true rfl) | lia) ?_
      rw [show ((as.length : Int) - 1 - (k : Int)) = ((as.length - 1 - k : Nat) : Int) by lia]
      exact ixAt_nat (by rw [List.getElem?_map, hp']; rfl)
    refine ⟨370, _, _, lbNs, _, (S'.lbs p hmem).look, by rw [C.cls]; rfl, by decide, rfl, rfl, ?_⟩
    refine ev_ta C (by decide) <| ev_local h2 ⟨s, t, v, r, c, _, rfl, rfl, rfl, _, cmp_str _ _, ?_⟩
    by_cases hn : p.2.2.name = t
    · refine iteT (by first | exact decide_eq_true (by assumption) | exact decide_eq_false (by assumption) | exact ndF (by assumption) | exact ndT (by assumption)) <| ex_cons <| ex_return <| ev_local rfl ?_
      show Q _ (era (upd σ L .mark) L)
      rw [era_upd hL]
      refine hq k (labelR_4 hs ?_)
      rw [h5, hrev]; unfold idxS; rw [if_pos hn]; simp
    · refine iteF (by first | exact decide_eq_true (by assumption) | exact decide_eq_false (by assumption) | exact ndF (by assumption) | exact ndT (by assumption)) <| ex_nil <| ex_nil ⟨rfl, h1, h2, k + 1, ?_, hk1, ?_⟩
      · rfl
      · rw [h5, hrev]
        show Option.map _ (if p.2.2.name = t then some 0 else (idxS _ t).map (· + 1)) = _
        rw [if_neg hn]
        cases idxS ((as.map (·.2.2.name)).reverse.drop (k + 1)) t with
        | none => rfl
        | some j => simp; lia
  · rintro loc σ' ⟨rfl, h1, h2, k, h3, h4, h5⟩
    have hkk : as.length ≤ k := by
      rcases Nat.lt_or_ge k as.length with h | h
      · have := congrArg List.length h3; simp at this; lia
      · exact h
    have h0 : idxS (as.map (·.2.2.name)).reverse t = none := by
      rw [h5, List.drop_eq_nil_of_le (by simpa using hkk)]; rfl
    refine ex_cons <| ex_expr <| gcall (n := 7) (g_refuse C) (keepF C rfl) rfl (by decide) rfl <| evs_cons (ev_bin <| ev_strC (by kernel_rfl) <| ev_ta C (by decide) <| ev_local h2 ⟨s, t, v, r, c, _, rfl, rfl, rfl, _, .cat _ _ (by have := hk.1; show 14 + t.length ≤ 2 ^ 20; lia), ?_⟩)
    exact evs_cons <| ev_local h2 <| evs_nil <| c_refuse C (hx _ (labelR_5 hs h0))
end
end Mine
end

section
namespace Mine
/-- what the reader's steps keep: all but lists and labels' fields -/
noncomputable def kpt : MObj → Bool
  | .lst _ => false
  | .ns ks _ => !decide (ks = lbNs)
  | _ => true
noncomputable def Kp (σ σ' : Store) : Prop := ∀ a m, σ a = some m → kpt m = true → σ' a = some m
theorem Kp.refl (σ : Store) : Kp σ σ := fun _ _ h _ => h
theorem Kp.trans {σ σ1 σ2 : Store} (x : Kp σ σ1) (y : Kp σ1 σ2) : Kp σ σ2 := fun a m h k => y a m (x a m h k) k
theorem Kp.new {σ : Store} {a : Addr} {m : MObj} (h : σ a = none) : Kp σ (upd σ a m) := fun b m' e _ => upd_out e h
theorem Kp.put {σ : Store} {a : Addr} {m m' : MObj} (h : σ a = some m) (hk : kpt m = false) : Kp σ (upd σ a m') := fun b m1 e k => by
  rw [upd_ne _ _ (by rintro rfl; rw [h] at e; cases e; rw [hk] at k; cases k)]; exact e
theorem Kp.leave {σ σ' : Store} {L : Addr} (hL : σ L = none) (h : Kp (upd σ L .mark) σ') : Kp σ (era σ' L) := fun a m e k => by
  rw [era_ne _ (ne_of e hL)]; exact h a m (upd_out e hL) k
theorem RS.leave {σ σ' : Store} {R : RA} {ids : V} {T B : List V} {as : List (Addr × Addr × Lb)} {L : Addr} (h : Kp (Mine.upd σ L .mark) σ') (S : RS σ' R ids T B as) : RS (era σ' L) R ids T B as :=
  S.mono fun a m e hm => by
    have := h L .mark (upd_eq ..) rfl
    rw [era_ne _ (by rintro rfl; rw [this] at e; cases e; exact hm rfl)]; exact e
section
variable {σ : Store} {R : RA} {ids : V} {T B : List V} {as : List (Addr × Addr × Lb)}
theorem RS.setB (S : RS σ R ids T B as) (B' : List V) : RS (Mine.upd σ R.b (.lst B')) R ids T B' as := by
  have u : ∀ {a m}, σ a = some m → a ≠ R.b → Mine.upd σ R.b (.lst B') a = some m := fun h hn => by rw [upd_ne _ _ hn]; exact h
  have n : ∀ {a m}, σ a = some m → (∀ l, m ≠ .lst l) → a ≠ R.b := fun h hm q => by rw [q, S.bb] at h; cases h; exact hm _ rfl
  exact ⟨u S.ins (n S.ins (by nofun)), u S.ns (n S.ns (by nofun)), u S.tt S.ne.2.1.symm, upd_eq .., u S.ll S.ne.1.symm, S.ne, fun p hp => ⟨u (S.lbs p hp).1 (n (S.lbs p hp).1 (by nofun)), u (S.lbs p hp).2 (n (S.lbs p hp).2 (by nofun))⟩, S.nd⟩
theorem RS.setT (S : RS σ R ids T B as) (T' : List V) : RS (Mine.upd σ R.t (.lst T')) R ids T' B as := by
  have u : ∀ {a m}, σ a = some m → a ≠ R.t → Mine.upd σ R.t (.lst T') a = some m := fun h hn => by rw [upd_ne _ _ hn]; exact h
  have n : ∀ {a m}, σ a = some m → (∀ l, m ≠ .lst l) → a ≠ R.t := fun h hm q => by rw [q, S.tt] at h; cases h; exact hm _ rfl
  exact ⟨u S.ins (n S.ins (by nofun)), u S.ns (n S.ns (by nofun)), upd_eq .., u S.bb S.ne.2.1, u S.ll S.ne.2.2, S.ne, fun p hp => ⟨u (S.lbs p hp).1 (n (S.lbs p hp).1 (by nofun)), u (S.lbs p hp).2 (n (S.lbs p hp).2 (by nofun))⟩, S.nd⟩
theorem RS.setL (S : RS σ R ids T B as) {as' : List (Addr × Addr × Lb)} (h1 : ∀ p ∈ as', LbAt σ p) (h2 : (as'.map (·.2.1)).Nodup) : RS (Mine.upd σ R.l (.lst (as'.map fun p => V.ref p.1))) R ids T B as' := by
  have u : ∀ {a m}, σ a = some m → a ≠ R.l → Mine.upd σ R.l (.lst (as'.map fun p => V.ref p.1)) a = some m := fun h hn => by rw [upd_ne _ _ hn]; exact h
  have n : ∀ {a m}, σ a = some m → (∀ l, m ≠ .lst l) → a ≠ R.l := fun h hm q => by rw [q, S.ll] at h; cases h; exact hm _ rfl
  exact ⟨u S.ins (n S.ins (by nofun)), u S.ns (n S.ns (by nofun)), u S.tt S.ne.2.2.symm, u S.bb S.ne.1, upd_eq .., S.ne, fun p hp => ⟨u (h1 p hp).1 (n (h1 p hp).1 (by nofun)), u (h1 p hp).2 (n (h1 p hp).2 (by nofun))⟩, h2⟩
theorem RS.setE {x dx : Addr} {lb : Lb} (S : RS σ R ids T B (as ++ [(x, dx, lb)])) (lb' : Lb) : RS (Mine.upd σ dx (.ns lbNs (lbVs lb'))) R ids T B (as ++ [(x, dx, lb')]) := by
  have hp := S.lbs (x, dx, lb) (by simp)
  have u : ∀ {a m}, σ a = some m → a ≠ dx → Mine.upd σ dx (.ns lbNs (lbVs lb')) a = some m := fun h hn => by rw [upd_ne _ _ hn]; exact h
  have n : ∀ {a m}, σ a = some m → (∀ vs, m ≠ .ns lbNs vs) → a ≠ dx := fun h hm q => by rw [q] at h; have := hp.2; rw [h] at this; cases this; exact hm _ rfl
  have nd := S.nd
  rw [List.map_append, List.nodup_append] at nd
  refine ⟨u S.ins (n S.ins (by nofun)), u S.ns (n S.ns (fun vs q => by injection q with q1 q2; revert q1; decide)), u S.tt (n S.tt (by nofun)), u S.bb (n S.bb (by nofun)), ?_, S.ne, fun p hq => ?_, ?_⟩
  · have := u S.ll (n S.ll (by nofun))
    rw [this]; simp
  · rcases List.mem_append.mp hq with h | h
    · have h1 := S.lbs p (List.mem_append_left _ h)
      exact ⟨u h1.1 (n h1.1 (by nofun)), u h1.2 fun q => nd.2.2 p.2.1 (List.mem_map.mpr ⟨p, h, rfl⟩) dx (by simp) q⟩
    · simp at h; subst h
      exact ⟨u hp.1 (n hp.1 (by nofun)), upd_eq ..⟩
  · have := S.nd
    simpa using this
end
inductive AppRes (σ : Store) (a : Addr) (y : V) (Q : V → Store → Prop) : Prop | mk (l : List V) (h1 : σ a = some (.lst l)) (h2 : l.length ≤ 2 ^ 20) (q : Q .none (upd σ a (.lst (l ++ [y]))))
section
variable {G : Gd} {md : Md} {loc : Loc} {σ : Store} {X : Exn → Prop}

/-- a method of the reader, called on it -/
theorem slf_call (C : Cx G) {x name : Str} {p apos pos : Pos} {es : List Expr} {fa : Addr} {n : Nat} {R : RA} {ids : V} {T B : List V} {as : List (Addr × Addr × Lb)} {Q : V → Store → Prop} (S : RS σ R ids T B as) (hd : md.hd = none) (hx : loc.lookup x = some (.val (.ref R.r)))
    (hk : rdNs.contains name = false) (hm : methOk (KK G.P) 564 name fa = true) (kp : KeepAt G (.ref fa)) (hn : n ≤ md.n) (h : EvsW G md es loc σ (CalXQ G n (.ref fa) (.ref R.r) Q X) X) (hs : es.all notStar = true := by rfl) (dx : (x == ("__debug__" : Str)) = false := by decide)
    (he : ∀ env, ∃ pl : Sem Bool, eval (.Call (.Attribute (.Name x p) name apos) es [] pos) env = (do
      let ov ← eval (.Name x p) env
      standAt apos.atName
      let (f, first) ← holding [ov] (getMethod ov name pl)
      callWith pos f first (backTo pos (starEach es env)) (backToKw pos (keywordEach [] env))) := by intro _; exact ⟨_, by with_unfolding_all rfl⟩) : EvW G md (.Call (.Attribute (.Name x p) name apos) es [] pos) loc σ Q X :=
  ev_method hd (ev_local hx ⟨_, _, n, .own 564 _ _ fa S.look hk ⟨_, C.k, hm⟩, kp, hn, h⟩ dx) hs he
abbrev AppY (a : Addr) (Q : V → Store → Prop) : V → Store → Prop := fun y σ2 => AppRes σ2 a y Q
inductive AppR (G : Gd) (md : Md) (e : Expr) (loc : Loc) (Q : V → Store → Prop) (X : Exn → Prop) (x : V) (σ1 : Store) : Prop | mk (a : Addr) (l1 : List V) (h1 : x = .ref a) (h2 : σ1 a = some (.lst l1)) (q : EvW G md e loc σ1 (AppY a Q) X)
inductive PopR (Q : V → Store → Prop) (x : V) (σ1 : Store) : Prop | mk (a : Addr) (l : List V) (y : V) (h1 : x = .ref a) (h2 : σ1 a = some (.lst (l ++ [y]))) (h3 : l.length ≤ 2 ^ 20) (q : Q y (upd σ1 a (.lst l)))
/-- a list of the store: append -/
theorem lst_append {o e : Expr} {apos pos : Pos} {Q : V → Store → Prop} (hd : md.hd = none) 
    (h : EvW G md o loc σ (AppR G md e loc Q X) X) (hs : notStar e = true := by rfl)
    (he : ∀ env, ∃ pl : Sem Bool, eval (.Call (.Attribute o "append" apos) [e] [] pos) env = (do
      let ov ← eval o env
      standAt apos.atName
      let (f, first) ← holding [ov] (getMethod ov "append" pl)
      callWith pos f first (backTo pos (starEach [e] env)) (backToKw pos (keywordEach [] env))) := by intro _; exact ⟨_, by with_unfolding_all rfl⟩) : EvW G md (.Call (.Attribute o "append" apos) [e] [] pos) loc σ Q X := by
  refine ev_method hd (h.mono (fun x σ1 ⟨a, l1, hx, h1, hE⟩ => ⟨.builtin "list.append", [x], 0, .blt "list" "list.append" (by subst hx; unfold typeName; rw [lk_ref h1]) F.plainAttrs_list F.slot_list_append (by kernel_rfl), keep_builtin _, Nat.zero_le _, ?_⟩) fun _ z => z) (by rw [List.all_cons, hs]; rfl) he
  subst hx
  exact evs_cons (hE.mono (fun y σ2 ⟨l, h2, hz, hq⟩ => evs_nil (m_append h2 hz hq)) fun _ z => z) hs
/-- a list of the store: pop -/
theorem lst_pop {o : Expr} {apos pos : Pos} {Q : V → Store → Prop} (hd : md.hd = none) 
    (h : EvW G md o loc σ (PopR Q) X)
    (he : ∀ env, ∃ pl : Sem Bool, eval (.Call (.Attribute o "pop" apos) [] [] pos) env = (do
      let ov ← eval o env
      standAt apos.atName
      let (f, first) ← holding [ov] (getMethod ov "pop" pl)
      callWith pos f first (backTo pos (starEach [] env)) (backToKw pos (keywordEach [] env))) := by intro _; exact ⟨_, by with_unfolding_all rfl⟩) : EvW G md (.Call (.Attribute o "pop" apos) [] [] pos) loc σ Q X := by
  refine ev_method hd (h.mono (fun x σ1 ⟨a, l, y, hx, h1, hz, hq⟩ => ⟨.builtin "list.pop", [x], 0, .blt "list" "list.pop" (by subst hx; unfold typeName; rw [lk_ref h1]) F.plainAttrs_list F.slot_list_pop (by kernel_rfl), keep_builtin _, Nat.zero_le _, ?_⟩) fun _ z => z) rfl he
  subst hx
  exact evs_nil (m_pop h1 hz hq)

variable {R : RA} {ids : V} {T B : List V} {as : List (Addr × Addr × Lb)}
theorem k_open (C : Cx G) {iv : V} {x dx : Addr} {lb : Lb} {Q : V → Store → Prop} (S : RS σ R ids T B as) (hb : B.length ≤ 2 ^ 20) (hl : as.length ≤ 2 ^ 20) (hx : LbAt σ (x, dx, lb)) (hd : dx ∉ as.map (·.2.1))
    (hq : ∀ σ', RS σ' R ids T (B ++ [iv]) (as ++ [(x, dx, lb)]) → Kp σ σ' → Q .none σ') : CallW G 1 (.ref 444) [.ref R.r, iv, .ref x] σ Q X := by
  refine call_fn (n := 0) (fnO (ps := ["self", "instruction", "label"]) C rfl rfl rfl rfl (bt3 fun _ _ _ _ => .of_eq rfl)) (by decide) (by decide) rfl fun L hL => ?_
  have S0 := S.upd (m := .mark) hL
  refine ex_cons <| ex_expr <| lst_append rfl <| ev_slf C S0 rfl (by decide) rfl rfl ⟨_, _, rfl, S0.bb, ev_local rfl ⟨_, S0.bb, hb, ?_⟩⟩
  have S1 := S0.setB (B ++ [iv])
  have K1 : Kp (upd σ L .mark) (upd (upd σ L .mark) R.b (.lst (B ++ [iv]))) := .put S0.bb rfl
  refine ex_cons <| ex_expr <| lst_append rfl <| ev_slf C S1 rfl (by decide) rfl rfl ⟨_, _, rfl, S1.ll, ev_local rfl ⟨_, S1.ll, by simpa using hl, ?_⟩⟩
  have hx1 : LbAt (upd (upd σ L .mark) R.b (.lst (B ++ [iv]))) (x, dx, lb) := by
    have h0 : LbAt (upd σ L .mark) (x, dx, lb) := ⟨upd_out hx.1 hL, upd_out hx.2 hL⟩
    exact ⟨upd_two h0.1 S0.bb (by nofun), upd_two h0.2 S0.bb (by nofun)⟩
  have S2 := S1.setL (as' := as ++ [(x, dx, lb)]) (fun p hp => by
    rcases List.mem_append.mp hp with h | h
    · exact S1.lbs p h
    · simp at h; subst h; exact hx1) (by
    rw [List.map_append, List.nodup_append]
    exact ⟨S.nd, by simp, fun a ha b hb => by simp at hb; subst hb; rintro rfl; exact hd ha⟩)
  rw [List.map_append] at S2
  have K2 := K1.trans (.put S1.ll rfl (m' := .lst (List.map (fun p => V.ref p.1) as ++ List.map (fun p => V.ref p.1) [(x, dx, lb)])))
  refine ex_nil ?_
  exact hq _ (S2.leave K2) (K2.leave hL)
theorem k_close (C : Cx G) {p : Addr × Addr × Lb} {Q : V → Store → Prop} (S : RS σ R ids T B (as ++ [p])) (hb : B.length ≤ 2 ^ 20) (hl : as.length ≤ 2 ^ 20)
    (hq : ∀ σ', RS σ' R ids T (B ++ [.tup [.int 11]]) as → Kp σ σ' → Q .none σ') : CallW G 1 (.ref 451) [.ref R.r] σ Q X := by
  refine call_fn (n := 0) (fnO (ps := ["self"]) C rfl rfl rfl rfl (bt1 fun _ _ => .of_eq rfl)) (by decide) (by decide) rfl fun L hL => ?_
  have S0 := S.upd (m := .mark) hL
  have hll := S0.ll
  rw [List.map_append, List.map_cons, List.map_nil] at hll
  refine ex_cons <| ex_expr <| lst_pop rfl <| ev_slf C S0 rfl (by decide) rfl rfl ⟨_, _, _, rfl, hll, by simpa using hl, ?_⟩
  have nd := S.nd
  rw [List.map_append, List.nodup_append] at nd
  have S1 := S0.setL (as' := as) (fun q hq => S0.lbs q (List.mem_append_left _ hq)) nd.1
  have K1 : Kp (upd σ L .mark) (upd (upd σ L .mark) R.l (.lst (List.map (fun p => V.ref p.1) as))) := .put S0.ll rfl
  refine ex_cons <| ex_expr <| lst_append rfl <| ev_slf C S1 rfl (by decide) rfl rfl ⟨_, _, rfl, S1.bb, ev_tuple <| evs_cons <| ev_global (g_END C) rfl <| evs_nil ⟨by first | exact Nat.le_of_ble_eq_true rfl | simp, _, S1.bb, hb, ?_⟩⟩
  have S2 := S1.setB (B ++ [.tup [.int 11]])
  have K2 := K1.trans (.put S1.bb rfl (m' := .lst (B ++ [.tup [.int 11]])))
  exact ex_nil <| hq _ (S2.leave K2) (K2.leave hL)
end
end Mine
end

section
namespace Mine
section
variable {G : Gd} {md : Md} {loc : Loc} {σ : Store} {X : Exn → Prop}
variable {R : RA} {ids : V} {T B : List V} {as : List (Addr × Addr × Lb)}

theorem k_select0 (C : Cx G) {slf : V} {l : List It} {i : Nat} {Q : V → Store → Prop} (hz : l.length ≤ 2 ^ 20) (ho : ∀ x, l[i]? = some x → itOk x = true ∧ headP x ≠ "result")
    (hq : Q (.tup [.tup [.int 27], .int i]) σ) : CallW G 3 (.ref 561) [slf, .lst (itVs l), .int i] σ Q X := by
  refine call_fn (n := 2) (fnO (ps := ["self", "items", "at"]) C rfl rfl rfl rfl (bt3 fun _ _ _ _ => .of_eq rfl)) (by decide) (by decide) rfl fun L hL => ?_
  have fin : ∀ v, v = V.tup [.tup [.int 27], .int i] → Q v (era (upd σ L .mark) L) := fun v e => by rw [era_upd hL, e]; exact hq
  refine ex_cons <| ex_assign_tup (ns := ["kinds", "is_told"]) (o := some ["kinds", "is_told"]) rfl rfl (by decide) (by rfl) (.inr rfl) ?_
  refine ev_tuple <| evs_cons (ev_list <| evs_nil ⟨by decide, .inl ?_⟩)
  refine evs_cons <| ev_bool <| evs_nil ⟨by first | exact Nat.le_of_ble_eq_true rfl | simp, _, rfl, rfl, ?_⟩
  rw [if_neg (by simp)]
  refine ex_cons <| ex_while 1 ?_
  refine ts_and <| lt_len C rfl rfl rfl rfl (by rw [itVs_len]; exact hz) rfl ?_
  cases h : l[i]? with
  | none =>
    refine iteF (by rw [itVs_len]; simpa using List.getElem?_eq_none_iff.mp h) <| iteF rfl ?_
    refine ex_cons <| ex_if <| ts_plain <| ev_local rfl ⟨_, rfl, iteF rfl <| ex_nil ?_⟩
    exact ex_cons <| ex_return <| ev_tuple <| evs_cons (ev_tuple <| evs_cons <| ev_global (g_SELECT C) rfl <| evs_nil ⟨by first | exact Nat.le_of_ble_eq_true rfl | simp, evs_cons <| ev_local rfl <| evs_nil ⟨by first | exact Nat.le_of_ble_eq_true rfl | simp, fin _ rfl⟩⟩)
  | some x =>
    have hi := (List.getElem?_eq_some_iff.mp h).1
    obtain ⟨h0, h1⟩ := ho x h
    refine iteT (by rw [itVs_len]; simpa using hi) ?_
    refine ts_and <| ts_cmp <| gcall (n := 2) (g_head_of C) (keepF C rfl) rfl (by decide) rfl <| evs_cons <| ev_item rfl rfl rfl hz h <| evs_nil <| c_headI C h0 <| ev_strC (by kernel_rfl) ⟨_, cmp_str _ _, iteF (by first | exact decide_eq_true (by assumption) | exact decide_eq_false (by assumption) | exact ndF (by assumption) | exact ndT (by assumption)) <| iteF rfl ?_⟩
    refine ex_cons <| ex_if <| ts_plain <| ev_local rfl ⟨_, rfl, iteF rfl <| ex_nil ?_⟩
    exact ex_cons <| ex_return <| ev_tuple <| evs_cons (ev_tuple <| evs_cons <| ev_global (g_SELECT C) rfl <| evs_nil ⟨by first | exact Nat.le_of_ble_eq_true rfl | simp, evs_cons <| ev_local rfl <| evs_nil ⟨by first | exact Nat.le_of_ble_eq_true rfl | simp, fin _ rfl⟩⟩)

/-- a while loop, by what holds ahead of each turn, and what holds behind it -/
abbrev LpK (J K : Loc → Store → Prop) (Q : Flw → Loc → Store → Prop) : Flw → Loc → Store → Prop := fun fl loc σ => match fl with
      | .next | .cont => J loc σ
      | .brk => K loc σ
      | .ret r => Q (.ret r) loc σ
inductive WhT {α : Type} (G : Gd) (md : Md) (body : List Stmt) (J : List α → Loc → Store → Prop) (K : Loc → Store → Prop) (Q : Flw → Loc → Store → Prop) (X : Exn → Prop) (as : List α) (loc : Loc) (σ : Store) : Prop | mk (a : α) (as' : List α) (h : as = a :: as') (q : ExW G md body loc σ (LpK (J as') K Q) X)
abbrev WhQ {α : Type} (G : Gd) (md : Md) (body : List Stmt) (J : List α → Loc → Store → Prop) (K : Loc → Store → Prop) (Q : Flw → Loc → Store → Prop) (X : Exn → Prop) (as : List α) (loc : Loc) : Bool → Store → Prop := fun b σ1 => if b = true then WhT G md body J K Q X as loc σ1 else K loc σ1
theorem whl_ind2 {α : Type} {test : Expr} {body : List Stmt} {Q : Flw → Loc → Store → Prop} (J : List α → Loc → Store → Prop) (K : Loc → Store → Prop) (fin : ∀ loc σ, K loc σ → Q .next loc σ)
    (step : ∀ as loc σ, J as loc σ → TsW G md test loc σ (WhQ G md body J K Q X as loc) X) (as : List α) : ∀ (loc : Loc) (σ : Store), J as loc σ → WhlN G md test body Q X (as.length + 1) loc σ := by
  induction as with
  | nil =>
    intro loc σ h A env m s S
    refine wpAny_mono (step [] loc σ h A env m s S) (fun b s' ⟨σ', h1, h2, h3⟩ => ⟨σ', ?_, h2, h3⟩) fun _ _ z => z
    cases b with
    | false => exact fin _ _ h1
    | true => obtain ⟨a, as', e, _⟩ := h1; cases e
  | cons a0 as0 ih =>
    intro loc σ h A env m s S
    refine wpAny_mono (step (a0 :: as0) loc σ h A env m s S) (fun b s' ⟨σ', h1, h2, h3⟩ => ⟨σ', ?_, h2, h3⟩) fun _ _ z => z
    cases b with
    | false => exact fin _ _ h1
    | true =>
      obtain ⟨a, as', e, h4⟩ := h1
      cases e
      refine h4.mono fun fl l s q => ?_
      cases fl with
      | next => exact ih l s q
      | cont => exact ih l s q
      | brk => exact fin _ _ q
      | ret r => exact q
theorem labelsR_c {names : List Str} {x : It} {xs : List It} : labelsR names (x :: xs) = (match labelR names x with
    | .error e => .error e
    | .ok n => match labelsR names xs with
      | .error e => .error e
      | .ok ns => .ok (n :: ns)) := rfl
theorem labelsR_app {names : List Str} {xs ys : List It} : ∀ {ns : List Int}, labelsR names xs = .ok ns → labelsR names (xs ++ ys) = (match labelsR names ys with
    | .ok ms => .ok (ns ++ ms)
    | .error e => .error e) := by
  induction xs with
  | nil =>
    intro ns h
    cases h
    simp only [List.nil_append]
    cases labelsR names ys <;> rfl
  | cons x xs ih =>
    intro ns h
    rw [labelsR_c] at h
    rw [List.cons_append, labelsR_c]
    cases hx : labelR names x with
    | error e => rw [hx] at h; cases h
    | ok n =>
      rw [hx] at h
      cases hs : labelsR names xs with
      | error e => rw [hs] at h; cases h
      | ok ms =>
        rw [hs] at h; cases h
        simp only [ih hs]
        cases labelsR names ys <;> rfl

theorem labelsR_len {names : List Str} {xs : List It} : ∀ {ns : List Int}, labelsR names xs = .ok ns → ns.length = xs.length := by
  induction xs with
  | nil => intro ns h; cases h; rfl
  | cons x xs ih =>
    intro ns h
    rw [labelsR_c] at h
    cases hx : labelR names x with
    | error e => rw [hx] at h; cases h
    | ok n =>
      rw [hx] at h
      cases hs : labelsR names xs with
      | error e => rw [hs] at h; cases h
      | ok ms => rw [hs] at h; cases h; rw [List.length_cons, ih hs, List.length_cons]
/-- the items of a branch instruction -/
noncomputable def goalsOf (form : Str) (l : List It) (i : Nat) : List It := if form = "labels" then runIx l i else (runIx l i).take 1
theorem isIx_tok {x : It} (h : isIx x = true) : ∃ s t v r c, x = .tok s t v r c := by
  cases x with
  | tok s t v r c => exact ⟨s, t, v, r, c, rfl⟩
  | br => cases h
inductive InnJ (σ0 : Store) (f r : Addr) (code : Int) (form : Str) (l : List It) (i : Nat) (nms : List Str) (al : List It) (rest : List It) (loc : Loc) (σ' : Store) : Prop
  | mk (j : Nat) (acc : List Int) (e : σ' = upd σ0 f (.lst (acc.map V.int))) (l1 : loc.lookup ("self" : Str) = some (.val (.ref r))) (l2 : loc.lookup ("code" : Str) = some (.val (.int code))) (l3 : loc.lookup ("form" : Str) = some (.val (.str form))) (l4 : loc.lookup ("items" : Str) = some (.val (.lst (itVs l)))) (l5 : loc.lookup ("at" : Str) = some (.val (.int (j : Nat)))) (l6 : loc.lookup ("found" : Str) = some (.val (.ref f)))
    (hr : rest = (if form = "labels" then runIx l j else [])) (hj : j = i + acc.length) (done : List It) (hd : al = done ++ rest) (ha : labelsR nms done = .ok acc)
inductive InnK (σ0 : Store) (f : Addr) (code : Int) (l : List It) (i : Nat) (nms : List Str) (al : List It) (loc : Loc) (σ' : Store) : Prop
  | mk (acc : List Int) (e : σ' = upd σ0 f (.lst (acc.map V.int))) (l2 : loc.lookup ("code" : Str) = some (.val (.int code))) (l5 : loc.lookup ("at" : Str) = some (.val (.int ((i + acc.length : Nat) : Int)))) (l6 : loc.lookup ("found" : Str) = some (.val (.ref f))) (hl : acc.length ≤ l.length + 1) (ha : labelsR nms al = .ok acc)
theorem k_inner (C : Cx G) {form : Str} {l : List It} {i : Nat} {tok : It} {code : Int} {Q : V → Store → Prop} (S : RS σ R ids T B as) (hl : as.length ≤ 1000) (hz : l.length ≤ 2 ^ 19) (ho : ∀ x ∈ l, ItOk x) (hf : form = "label" ∨ form = "labels")
    (h0 : hiP l i = false → X (refI "unexpected token" (l[i]?.getD tok)))
    (hq : ∀ ns, hiP l i = true → labelsR (as.map (·.2.2.name)) (goalsOf form l i) = .ok ns → Q (.tup [.tup (.int code :: ns.map V.int), .int ((i + ns.length : Nat) : Int)]) σ)
    (hx : ∀ e, hiP l i = true → labelsR (as.map (·.2.2.name)) (goalsOf form l i) = .error e → X e) : CallW G 10 (.ref 521) [.ref R.r, .int code, .str form, itV tok, .lst (itVs l), .int i] σ Q X := by
  refine callW_junk (call_fn (n := 9) (fnO (ps := ["self", "code", "form", "token", "items", "at"]) C rfl rfl rfl rfl (bt6 fun _ _ _ _ _ _ _ => .of_eq rfl)) (by decide) (by decide) rfl fun L hL => ?_)
  have S0 := S.upd (m := .mark) hL
  have n1 : form ≠ "indirect" := by rcases hf with rfl | rfl <;> decide
  have n2 : form ≠ "local" := by rcases hf with rfl | rfl <;> decide
  refine ex_cons <| ex_if <| ts_cmp <| ev_local rfl <| ev_strC (by kernel_rfl) ⟨_, cmp_str _ _, iteF (by first | exact decide_eq_true (by assumption) | exact decide_eq_false (by assumption) | exact ndF (by assumption) | exact ndT (by assumption)) <| ex_nil ?_⟩
  refine ex_cons <| ex_assign (by rfl) <| gcall (n := 9) (g_index_at C) (keepF C rfl) rfl (by decide) rfl <| evs_cons <| ev_local rfl <| evs_cons <| ev_local rfl <| evs_cons <| ev_local rfl <| evs_nil <| c_ia C (by first | decide | (refine Nat.le_trans (by assumption) ?_; exact Nat.le_of_ble_eq_true rfl) | lia) (fun x hi hx0 => ?_) h0
  refine ex_cons <| ex_if <| ts_cmp <| ev_local rfl <| ev_strC (by kernel_rfl) ⟨_, cmp_str _ _, iteF (by first | exact decide_eq_true (by assumption) | exact decide_eq_false (by assumption) | exact ndF (by assumption) | exact ndT (by assumption)) <| ex_nil ?_⟩
  have hrun := runIx_true hx0 hi
  have hgo : goalsOf form l i = x :: (if form = "labels" then runIx l (i + 1) else []) := by
    unfold goalsOf; rw [hrun]; split <;> rfl
  obtain ⟨s, t, v, r, c, rfl⟩ := isIx_tok (x := x) (by obtain ⟨s, t, v, r, c, e, hs⟩ := hiP_some hi; rw [hx0] at e; cases e; exact hs)
  rw [hgo] at hq hx
  refine ex_cons <| ex_assign (by rfl) <| ev_list <| evs_cons (slf_call C (fa := 535) (n := 8) S0 rfl rfl (by decide) (by kernel_rfl) (keepF C rfl) (by decide) <| evs_cons <| ev_local rfl <| evs_nil ?_)
  rw [itV_tok]
  refine k_label C S0 hl (ho _ (List.mem_of_getElem? hx0)) (fun n hn => ?_) fun e he => hx e hi (by rw [labelsR_c, he])
  refine evs_nil ⟨by first | exact Nat.le_of_ble_eq_true rfl | simp, .inr fun f hF => ?_⟩
  have hfL : f ≠ L := by rintro rfl; rw [upd_eq] at hF; cases hF
  have hfσ : σ f = none := by rw [upd_ne _ _ hfL] at hF; exact hF
  refine ex_cons <| ex_assign (by rfl) <| ev_bin <| ev_local rfl <| ev_int ⟨_, .add _ _, ?_⟩
  refine ex_cons <| ex_while _ (whl_ind2 (InnJ (upd σ L .mark) f R.r code form l i (as.map (·.2.2.name)) (.tok s t v r c :: (if form = "labels" then runIx l (i + 1) else [])))
    (InnK (upd σ L .mark) f code l i (as.map (·.2.2.name)) (.tok s t v r c :: (if form = "labels" then runIx l (i + 1) else []))) ?_ ?_ _ _ _ ⟨i + 1, [n], rfl, rfl, rfl, rfl, rfl, rfl, rfl, rfl, rfl, [.tok s t v r c], rfl, by rw [labelsR_c, hn]; rfl⟩)
  · rintro loc σ' ⟨acc, rfl, l2, l5, l6, hal, hacc⟩
    refine ex_cons <| ex_return <| ev_tuple <| evs_cons (bcall (b_tuple C) rfl (keep_type _) rfl rfl <| evs_cons (ev_cat <| ev_list <| evs_cons <| ev_local l2 <| evs_nil ⟨by first | exact Nat.le_of_ble_eq_true rfl | simp, .inl <| ev_local l6 ⟨_, _, rfl, lk_ref (upd_eq ..), ?_, .inl <| evs_nil <| bi_tuple rfl ?_ <| evs_cons <| ev_local l5 <| evs_nil ⟨by first | exact Nat.le_of_ble_eq_true rfl | simp, ?_⟩⟩⟩))
    · simp; lia
    · simp; lia
    · refine ⟨f, _, (era_ne _ hfL).trans (upd_eq ..), by nofun, by nofun, ?_⟩
      rw [era_comm hfL, era_upd hL, era_upd hfσ]
      exact hq acc hi hacc
  rintro rest loc σ' ⟨j, acc, rfl, l1, l2, l3, l4, l5, l6, hrest, hj, done, hd, hacc⟩
  have Sf : RS (upd (upd σ L .mark) f (.lst (acc.map V.int))) R ids T B as := S0.upd hF
  have hjl : acc.length ≤ l.length + 1 := by
    have h1 := (List.getElem?_eq_some_iff.mp hx0).1
    have h2 := congrArg List.length hd
    have h3 : (runIx l (i + 1)).length ≤ l.length := by
      unfold runIx; exact Nat.le_trans (List.takeWhile_sublist _).length_le (by simp)
    have h4 : acc.length = done.length := labelsR_len hacc
    rw [List.length_append, List.length_cons] at h2
    split at h2
    · lia
    · rw [List.length_nil] at h2; lia
  have halt : rest = [] → labelsR (as.map (·.2.2.name)) (.tok s t v r c :: (if form = "labels" then runIx l (i + 1) else [])) = .ok acc := fun hr => by
    rw [hd, hr, List.append_nil]; exact hacc
  refine ts_and <| ts_cmp <| ev_local l3 <| ev_strC (by kernel_rfl) ⟨_, cmp_str _ _, ?_⟩
  by_cases hL2 : form = "labels"
  · refine iteT (by first | exact decide_eq_true (by assumption) | exact decide_eq_false (by assumption) | exact ndF (by assumption) | exact ndT (by assumption)) <| ts_and <| ts_plain <| gcall (n := 1) (g_has_index C) (keepF C rfl) rfl (by decide) rfl <| evs_cons <| ev_local l4 <| evs_cons <| ev_local l5 <| evs_nil <| c_hi C (by first | decide | (refine Nat.le_trans (by assumption) ?_; exact Nat.le_of_ble_eq_true rfl) | lia) ⟨_, rfl, ?_⟩
    rw [if_pos hL2] at hrest
    cases hb : hiP l j with
    | false =>
      refine iteF rfl <| iteF rfl ?_
      have hr : rest = [] := by
        cases rest with
        | nil => rfl
        | cons y ys => have := (runIx_cons hrest.symm).2.1; rw [hb] at this; cases this
      exact ⟨acc, rfl, l2, by rw [← hj]; exact l5, l6, hjl, halt hr⟩
    | true =>
      obtain ⟨s', t', v', r', c', hy, hs'⟩ := hiP_some hb
      have hr := runIx_true hy hb
      refine iteT rfl <| ts_and_nil <| iteT rfl ⟨.tok s' t' v' r' c', runIx l (j + 1), by rw [hrest, hr], ?_⟩
      refine ex_cons <| ex_expr <| lst_append rfl <| ev_local l6 ⟨_, _, rfl, upd_eq .., slf_call C (fa := 535) (n := 8) Sf rfl l1 (by decide) (by kernel_rfl) (keepF C rfl) (by decide) <| evs_cons (ev_item l4 l5 rfl (by first | decide | (refine Nat.le_trans (by assumption) ?_; exact Nat.le_of_ble_eq_true rfl) | lia) hy <| evs_nil ?_)⟩
      rw [itV_tok]
      have hap : labelsR (as.map (·.2.2.name)) (.tok s t v r c :: (if form = "labels" then runIx l (i + 1) else [])) = _ := (congrArg _ hd).trans (labelsR_app (ys := rest) hacc)
      rw [hrest, hr] at hap
      refine k_label C Sf hl (ho _ (List.mem_of_getElem? hy)) (fun n' hn' => ?_) fun e he => hx e hi (by rw [hap, labelsR_c, he])
      refine ⟨_, upd_eq .., by simp; lia, ?_⟩
      rw [upd_upd]
      refine ex_cons <| ex_assign (by rfl) <| ev_bin <| ev_local l5 <| ev_int ⟨_, .add _ _, ?_⟩
      refine ex_nil ⟨j + 1, acc ++ [n'], by rw [List.map_append]; rfl, l1, l2, l3, l4, rfl, l6, by rw [if_pos hL2], by simp; lia, done ++ [.tok s' t' v' r' c'], ?_, ?_⟩
      · rw [hd, hrest, hr]; simp
      · rw [labelsR_app hacc, labelsR_c, hn']; rfl
  · refine iteF (by first | exact decide_eq_true (by assumption) | exact decide_eq_false (by assumption) | exact ndF (by assumption) | exact ndT (by assumption)) <| iteF rfl ?_
    rw [if_neg hL2] at hrest
    exact ⟨acc, rfl, l2, by rw [← hj]; exact l5, l6, hjl, halt hrest⟩
end
end Mine
end

section
namespace Mine
noncomputable def codeO (t : Str) : Option Int := match codeV t with
  | .int i => some i
  | _ => none
theorem codeN_or {t : Str} : ∀ l : List (Int × Str), (∃ i, codeN t l = .int i) ∨ codeN t l = .none
  | [] => .inr rfl
  | (k, v) :: r => by
    show (∃ i, (if v = t ∧ k ≠ 28 then V.int k else codeN t r) = .int i) ∨ (if v = t ∧ k ≠ 28 then V.int k else codeN t r) = .none
    split
    · exact .inl ⟨k, rfl⟩
    · exact codeN_or r
theorem codeO_none {t : Str} (h : codeO t = none) : codeV t = .none := by
  unfold codeO at h
  have : (∃ i, codeV t = .int i) ∨ codeV t = .none := by
    unfold codeV
    split
    · rename_i i e; exact .inl ⟨i, rfl⟩
    · exact codeN_or _
  rcases this with ⟨i, e⟩ | e
  · rw [e] at h; cases h
  · exact e
theorem codeO_some {t : Str} {i : Int} (h : codeO t = some i) : codeV t = .int i := by
  unfold codeO at h
  split at h
  · rename_i j e; cases h; exact e
  · cases h
noncomputable def plainF : List Str := ["none", "memory", "two_memories"]
noncomputable def instrR (names : List Str) (l : List It) (i : Nat) (s t : Str) (v : V) (r c : Int) : Except Exn (V × Nat) :=
  if t = "select" then .ok (.tup [.int 27], i)
  else if owB t = true then .error (refI "unexpected token" (.tok s t v r c))
  else match codeO t with
  | none => if leftB t = true then .error (xLO t r) else .error (refI "unknown operator" (.tok s t v r c))
  | some code => if plainF.any (· == strOfV (formV code)) = true then .ok (.tup [.int code], i)
    else if hiP l i = true then (match labelsR names (goalsOf (strOfV (formV code)) l i) with
      | .ok ns => .ok (.tup (.int code :: ns.map V.int), i + ns.length)
      | .error e => .error e)
    else .error (refI "unexpected token" (l[i]?.getD (.tok s t v r c)))
/-- the forms that the law's words have -/
noncomputable def formOk (t : Str) : Bool := match codeO t with
  | none => true
  | some code => (match formV code with
    | .str f => plainF.any (· == f) || decide (f = "label") || decide (f = "labels")
    | _ => false)
/-- an item run of the store -/
structure RunAt (σ : Store) (rn dn : Addr) (l : List It) (at_ : Nat) (fold : Bool) (base : V) : Prop where
  ins : σ rn = some (.ins 391 dn)
  ns : σ dn = some (.ns rnNs [.lst (itVs l), .int at_, .bool fold, base])
theorem RunAt.look {σ : Store} {rn dn : Addr} {l : List It} {at_ : Nat} {fold : Bool} {base : V} (h : RunAt σ rn dn l at_ fold base) : look σ (.ref rn) = some (391, rnNs, [.lst (itVs l), .int at_, .bool fold, base]) := by
  unfold Mine.look; simp only [h.ins, h.ns]
theorem RunAt.kp {σ σ' : Store} {rn dn : Addr} {l : List It} {at_ : Nat} {fold : Bool} {base : V} (h : RunAt σ rn dn l at_ fold base) (k : Kp σ σ') : RunAt σ' rn dn l at_ fold base := ⟨k _ _ h.ins rfl, k _ _ h.ns (by show (!decide (rnNs = lbNs)) = true; decide)⟩
noncomputable def endR (ls : List Lb) (base : Nat) (l : List It) (i : Nat) (s t : Str) (v : V) (r c : Int) : Except Exn (Nat × V × List Lb) :=
  if ls.length = base then .error (refI "unexpected token" (.tok s t v r c)) else
  match ls.getLast? with
  | none => .error (refI "unexpected token" (.tok s t v r c))
  | some lb =>
    if (idAt l i).any (fun n => !decide (n = lb.name)) = true then .error (refI "mismatching label" (l[i]?.getD (.tok s t v r c)))
    else if t = "end" then .ok (i + (if (idAt l i).isSome = true then 1 else 0), .tup [.int 11], ls.dropLast)
    else if lb.word ≠ "if" ∨ lb.els = true then .error (refI "unexpected token" (.tok s t v r c))
    else .ok (i + (if (idAt l i).isSome = true then 1 else 0), .tup [.int 5], ls.dropLast ++ [{ lb with els := true }])
section
variable {G : Gd} {md : Md} {loc : Loc} {σ : Store} {X : Exn → Prop}
variable {R : RA} {ids : V} {T B : List V} {as : List (Addr × Addr × Lb)}

omit G md loc σ X R ids T B as in
theorem instrR_none {names : List Str} {l : List It} {i : Nat} {s t : Str} {v : V} {r c : Int} (h1 : ¬ t = "select") (h2 : owB t = false) (h3 : codeO t = none) : instrR names l i s t v r c = if leftB t = true then .error (xLO t r) else .error (refI "unknown operator" (.tok s t v r c)) := by
  refine (if_neg h1).trans ((if_neg (by rw [h2]; decide)).trans ?_)
  rw [h3]
noncomputable def codeR' (names : List Str) (l : List It) (i : Nat) (f : Str) (code : Int) (tk : It) : Except Exn (V × Nat) := if plainF.any (· == f) = true then .ok (.tup [.int code], i)
    else if hiP l i = true then (match labelsR names (goalsOf f l i) with
      | .ok ns => .ok (.tup (.int code :: ns.map V.int), i + ns.length)
      | .error e => .error e)
    else .error (refI "unexpected token" (l[i]?.getD tk))
omit G md loc σ X R ids T B as in
theorem instrR_code {names : List Str} {l : List It} {i : Nat} {s t f : Str} {v : V} {r c code : Int} (h1 : ¬ t = "select") (h2 : owB t = false) (h3 : codeO t = some code) (hf : formV code = .str f) : instrR names l i s t v r c = codeR' names l i f code (.tok s t v r c) := by
  refine (if_neg h1).trans ((if_neg (by rw [h2]; decide)).trans ?_)
  rw [h3]
  dsimp only
  rw [hf]
  rfl
theorem k_instr (C : Cx G) {l : List It} {i : Nat} {s t : Str} {v : V} {r c : Int} {Q : V → Store → Prop} (S : RS σ R ids T B as) (hl : as.length ≤ 1000) (hz : l.length ≤ 2 ^ 19) (ho : ∀ x ∈ l, ItOk x ∧ isBr x = false) (hf : formOk t = true)
    (hq : ∀ iv j, instrR (as.map (·.2.2.name)) l i s t v r c = .ok (iv, j) → Q (.tup [iv, .int (j : Nat)]) σ)
    (hx : ∀ e, instrR (as.map (·.2.2.name)) l i s t v r c = .error e → X e) : CallW G 11 (.ref 507) [.ref R.r, tokV s t v r c, .lst (itVs l), .int i] σ Q X := by
  refine call_fn (n := 10) (fnO (ps := ["self", "token", "items", "at"]) C rfl rfl rfl rfl (bt4 fun _ _ _ _ _ => .of_eq rfl)) (by decide) (by decide) rfl fun L hL => ?_
  have S0 := S.upd (m := .mark) hL
  have fin : ∀ iv j, instrR (as.map (·.2.2.name)) l i s t v r c = .ok (iv, j) → Q (.tup [iv, .int (j : Nat)]) (era (upd σ L .mark) L) := fun iv j e => by rw [era_upd hL]; exact hq iv j e
  refine ex_cons <| ex_if <| ts_cmp <| ev_ta C (by decide) <| ev_local rfl ⟨_, _, _, _, _, _, rfl, rfl, rfl, ev_strC (by kernel_rfl) ⟨_, cmp_str _ _, ?_⟩⟩
  by_cases h1 : t = "select"
  · refine iteT (by first | exact decide_eq_true (by assumption) | exact decide_eq_false (by assumption) | exact ndF (by assumption) | exact ndT (by assumption)) <| ex_cons <| ex_return <| slf_call C (fa := 561) (n := 3) S0 rfl rfl (by decide) (by kernel_rfl) (keepF C rfl) (by decide) <| evs_cons <| ev_local rfl <| evs_cons <| ev_local rfl <| evs_nil <| k_select0 C (by first | decide | (refine Nat.le_trans (by assumption) ?_; exact Nat.le_of_ble_eq_true rfl) | lia) (fun x hx0 => ?_) ?_
    · obtain ⟨k1, k2⟩ := ho x (List.mem_of_getElem? hx0)
      cases x with
      | tok => exact ⟨rfl, show ("" : Str) ≠ "result" by decide⟩
      | br => cases k2
    · exact fin _ i (if_pos h1)
  refine iteF (by first | exact decide_eq_true (by assumption) | exact decide_eq_false (by assumption) | exact ndF (by assumption) | exact ndT (by assumption)) <| ex_nil ?_
  refine ex_cons <| ex_if <| ts_plain <| gcall (n := 1) (g_is_other_word C) (keepF C rfl) rfl (by decide) rfl <| evs_cons (ev_ta C (by decide) <| ev_local rfl ⟨_, _, _, _, _, _, rfl, rfl, rfl, evs_nil <| c_other C ⟨_, rfl, iteB (fun h2 => ?_) fun h2 => ex_nil ?_⟩⟩)
  · exact ex_cons <| ex_expr <| gcall (n := 7) (g_refuse C) (keepF C rfl) rfl (by decide) rfl <| evs_cons <| ev_strC (by kernel_rfl) <| evs_cons <| ev_local rfl <| evs_nil <| c_refuse C (hx _ ((if_neg h1).trans (if_pos h2)))
  refine ex_cons <| ex_assign (by rfl) <| gcall (n := 1) (g_code_of C) (keepF C rfl) rfl (by decide) rfl <| evs_cons (ev_ta C (by decide) <| ev_local rfl ⟨_, _, _, _, _, _, rfl, rfl, rfl, evs_nil <| c_code C ?_⟩)
  cases h3 : codeO t with
  | none =>
    rw [codeO_none h3]
    refine ex_cons <| ex_if <| ts_cmp <| ev_local rfl <| ev_none ⟨true, rfl, iteT rfl ?_⟩
    refine ex_cons <| ex_if <| ts_plain <| gcall (n := 1) (g_is_left_word C) (keepF C rfl) rfl (by decide) rfl <| evs_cons (ev_ta C (by decide) <| ev_local rfl ⟨_, _, _, _, _, _, rfl, rfl, rfl, evs_nil <| c_left C ⟨_, rfl, iteB (fun h4 => ?_) fun h4 => ex_nil ?_⟩⟩)
    · replace hx := hx _ ((instrR_none h1 h2 h3).trans (if_pos h4))
      refine ex_cons <| raise_LO C rfl (by decide) rfl <| evs_cons (ev_ta C (by decide) <| ev_local rfl ⟨_, _, _, _, _, _, rfl, rfl, rfl, ?_⟩)
      exact evs_cons (ev_ta C (by decide) <| ev_local rfl ⟨_, _, _, _, _, _, rfl, rfl, rfl, evs_nil ⟨_, _, rfl, rfl, hx⟩⟩)
    · replace hx := hx _ ((instrR_none h1 h2 h3).trans (if_neg (by rw [h4]; decide)))
      exact ex_cons <| ex_expr <| gcall (n := 7) (g_refuse C) (keepF C rfl) rfl (by decide) rfl <| evs_cons <| ev_strC (by kernel_rfl) <| evs_cons <| ev_local rfl <| evs_nil <| c_refuse C hx
  | some code =>
    rw [codeO_some h3]
    unfold formOk at hf
    rw [h3] at hf
    obtain ⟨f, hfv, hf2⟩ : ∃ f, formV code = .str f ∧ (plainF.any (· == f) = true ∨ f = "label" ∨ f = "labels") := by
      dsimp only at hf
      split at hf
      · rename_i f e
        refine ⟨f, e, ?_⟩
        rcases Bool.or_eq_true_iff.mp hf with q | q
        · rcases Bool.or_eq_true_iff.mp q with q | q
          · exact .inl q
          · exact .inr (.inl (of_decide_eq_true q))
        · exact .inr (.inr (of_decide_eq_true q))
      · cases hf
    have e0 := fun {names : List Str} => instrR_code (names := names) (l := l) (i := i) (s := s) (v := v) (r := r) (c := c) h1 h2 h3 hfv
    refine ex_cons <| ex_if <| ts_cmp <| ev_local rfl <| ev_none ⟨false, rfl, iteF rfl <| ex_nil ?_⟩
    refine ex_cons <| ex_assign (by rfl) <| gcall (n := 2) (g_form_of C) (keepF C rfl) rfl (by decide) rfl <| evs_cons <| ev_local rfl <| evs_nil <| c_form C ?_
    rw [hfv]
    refine ex_cons <| ex_if <| ts_cmp <| ev_local rfl <| ev_tupS rfl (by kernel_rfl) (by decide) ⟨plainF.any (· == f), rfl, iteB (fun h4 => ?_) fun h4 => ex_nil ?_⟩
    · refine ex_cons <| ex_return <| ev_tuple <| evs_cons (ev_tuple <| evs_cons <| ev_local rfl <| evs_nil ⟨by first | exact Nat.le_of_ble_eq_true rfl | simp, evs_cons <| ev_local rfl <| evs_nil ⟨by first | exact Nat.le_of_ble_eq_true rfl | simp, ?_⟩⟩)
      exact fin _ i (e0.trans (if_pos h4))
    rw [h4] at hf2
    replace hf2 : f = "label" ∨ f = "labels" := by
      rcases hf2 with h | h
      · cases h
      · exact h
    have e1 : getF ["func", "global", "data", "elem", "memory_init"] [.str "func", .str "global", .str "data", .str "elem", .str "data"] f = none := by rcases hf2 with rfl | rfl <;> decide
    refine ex_cons <| ex_if <| ts_cmp <| ev_local rfl <| ev_global (g_SPACE_OF_FORM C) rfl ⟨false, ?_, iteF rfl <| ex_nil ?_⟩
    · show some (getF ["func", "global", "data", "elem", "memory_init"] [.str "func", .str "global", .str "data", .str "elem", .str "data"] f).isSome = _
      rw [e1]; rfl
    refine ex_cons <| ex_if <| ts_cmp <| ev_local rfl <| ev_tupS rfl (by kernel_rfl) (by decide) ⟨(["local", "label", "labels", "indirect"] : List Str).any (· == f), rfl, iteT (by rcases hf2 with rfl | rfl <;> decide) ?_⟩
    have n4 : ¬ plainF.any (· == f) = true := by rw [h4]; decide
    refine ex_cons <| ex_return <| slf_call C (fa := 521) (n := 10) S0 rfl rfl (by decide) (by kernel_rfl) (keepF C rfl) (by decide) <| evs_cons <| ev_local rfl <| evs_cons <| ev_local rfl <| evs_cons <| ev_local rfl <| evs_cons <| ev_local rfl <| evs_cons <| ev_local rfl <| evs_nil ?_
    rw [← itV_tok]
    refine k_inner C S0 hl hz (fun x hx0 => (ho x hx0).1) hf2 (fun h0 => hx _ ?_) (fun ns h0 hn => fin _ _ ?_) fun e h0 he => hx _ ?_
    · exact e0.trans <| (if_neg n4).trans (if_neg (by rw [h0]; decide))
    · refine e0.trans <| (if_neg n4).trans ((if_pos h0).trans ?_)
      show (match labelsR _ (goalsOf f l i) with | .ok ns => _ | .error e => _) = _
      rw [hn]
    · refine e0.trans <| (if_neg n4).trans ((if_pos h0).trans ?_)
      show (match labelsR _ (goalsOf f l i) with | .ok ns => _ | .error e => _) = _
      rw [he]
end
end Mine
end

section
namespace Mine
noncomputable def lsOf (as : List (Addr × Addr × Lb)) : List Lb := as.map (·.2.2)
theorem names_of (as : List (Addr × Addr × Lb)) : (lsOf as).map (·.name) = as.map (·.2.2.name) := by unfold lsOf; rw [List.map_map]; rfl
theorem idAt_spec {l : List It} {i : Nat} : (∃ s t v r c, l[i]? = some (.tok s t v r c) ∧ s = "id" ∧ idAt l i = some t ∧ hiP l i = true) ∨ (idAt l i = none ∧ (hiP l i = true → ∃ s t v r c, l[i]? = some (.tok s t v r c) ∧ s ≠ "id")) := by
  cases h : l[i]? with
  | none => exact .inr ⟨by unfold idAt; rw [h], fun q => by unfold hiP at q; rw [h] at q; cases q⟩
  | some x =>
    cases x with
    | br l' r c => exact .inr ⟨by unfold idAt; rw [h], fun q => by unfold hiP at q; rw [h] at q; cases q⟩
    | tok s t v r c =>
      by_cases hs : s = "id"
      · exact .inl ⟨s, t, v, r, c, rfl, hs, by unfold idAt; rw [h]; exact if_pos hs, by unfold hiP; rw [h]; subst hs; show hiB "id" = true; decide⟩
      · exact .inr ⟨by unfold idAt; rw [h]; exact if_neg hs, fun _ => ⟨s, t, v, r, c, rfl, hs⟩⟩
section
variable {G : Gd} {md : Md} {loc : Loc} {σ : Store} {X : Exn → Prop}
variable {R : RA} {ids : V} {T B : List V} {as : List (Addr × Addr × Lb)}

/-- a field of an item run -/
theorem ev_run (C : Cx G) {x name : Str} {p pos : Pos} {rn dn : Addr} {l : List It} {i : Nat} {fold : Bool} {base u : V} {Q : V → Store → Prop} (S : RunAt σ rn dn l i fold base) (hx : loc.lookup x = some (.val (.ref rn)))
    (hn : rnNs.contains name = true) (hg : getF rnNs [.lst (itVs l), .int i, .bool fold, base] name = some u) (hp : plainV u = true) (hq : Q u σ)
    (he : ∀ env, eval (.Attribute (.Name x p) name pos) env = (do
      let o ← eval (.Name x p) env
      standAt pos.atName
      let r ← holding [o] (getAttr o name true)
      letTemporaryGo (.Name x p) o r
      pure r) := by intro _; rfl) (hd : (x == ("__debug__" : Str)) = false := by decide) : EvW G md (.Attribute (.Name x p) name pos) loc σ Q X :=
  ev_attr (ev_local hx ⟨391, _, _, rnNs, u, S.look, by rw [C.cls]; rfl, hn, hg, hp, hq⟩ hd) he
inductive LbR (name : Str) (Q : V → Store → Prop) (x : V) (σ1 : Store) : Prop | mk (p : Addr × Addr × Lb) (u : V) (h1 : x = .ref p.1) (h2 : LbAt σ1 p) (h3 : getF lbNs (lbVs p.2.2) name = some u) (h4 : plainV u = true) (q : Q u σ1)
/-- a field of a label -/
theorem ev_lb (C : Cx G) {e : Expr} {name : Str} {pos : Pos} {Q : V → Store → Prop} (hn : lbNs.contains name = true)
    (h : EvW G md e loc σ (LbR name Q) X)
    (he : ∀ env, eval (.Attribute e name pos) env = (do
      let o ← eval e env
      standAt pos.atName
      let r ← holding [o] (getAttr o name true)
      letTemporaryGo e o r
      pure r) := by intro _; rfl) : EvW G md (.Attribute e name pos) loc σ Q X :=
  ev_attr (h.mono (fun x σ1 ⟨p, u, hx, hl, hg, hp, hq⟩ => ⟨370, _, _, lbNs, u, by rw [hx]; exact hl.look, by rw [C.cls]; rfl, hn, hg, hp, hq⟩) fun _ z => z) he
/-- «items[at]», items a field of the run -/
theorem item_at {l : List It} {i : Nat} {x : It} {Q : V → Store → Prop} (hz : l.length ≤ 2 ^ 20) (h : l[i]? = some x) (hp : Q (itV x) σ) : SubR (.lst (itVs l)) Q (.int (i : Int)) σ :=
  item_tok rfl (by rw [itVs_len]; exact hz) (itVs_get h) hp

/-- what holds behind the first statement, told once -/
abbrev CutK (K : Loc → Store → Prop) (Q : Flw → Loc → Store → Prop) : Flw → Loc → Store → Prop := fun fl loc' σ' => match fl with | .next => K loc' σ' | f => Q f loc' σ'
theorem ex_cut {st : Stmt} {rest : List Stmt} {Q : Flw → Loc → Store → Prop} (K : Loc → Store → Prop) (h1 : Ex1 G md st loc σ (CutK K Q) X) (h2 : ∀ loc' σ', K loc' σ' → ExW G md rest loc' σ' Q X) : ExW G md (st :: rest) loc σ Q X := by
  refine ex_cons fun A env m s S => wpAny_mono (h1 A env m s S) (fun f s' ⟨fl, loc', σ', m', q, r1, r2, r3⟩ => ⟨fl, loc', σ', m', ?_, r1, r2, r3⟩) fun _ _ z => z
  cases fl with
  | next => exact h2 _ _ q
  | brk => exact q
  | cont => exact q
  | ret v => exact q

inductive EndK (σ0 : Store) (l : List It) (lb : Lb) (r x : Addr) (tk : V) (i : Nat) (loc' : Loc) (σ' : Store) : Prop
  | mk (e : σ' = σ0) (ha : (idAt l i).any (fun n => !decide (n = lb.name)) = false) (l1 : loc'.lookup ("self" : Str) = some (.val (.ref r))) (l2 : loc'.lookup ("token" : Str) = some (.val tk)) (l3 : loc'.lookup ("label" : Str) = some (.val (.ref x)))
    (l4 : loc'.lookup ("at" : Str) = some (.val (.int ((i + (if (idAt l i).isSome = true then 1 else 0) : Nat) : Int))))
noncomputable def endS (t : Str) (lb : Lb) (ls : List Lb) (n : Nat) (tk : It) : Except Exn (Nat × V × List Lb) := if t = "end" then .ok (n, V.tup [.int 11], ls) else if lb.word ≠ "if" ∨ lb.els = true then .error (refI "unexpected token" tk) else .ok (n, .tup [.int 5], ls ++ [{ lb with els := true }])
noncomputable def endT (lb : Lb) (ls : List Lb) (l : List It) (i : Nat) (s t : Str) (v : V) (r c : Int) : Except Exn (Nat × V × List Lb) := if (idAt l i).any (fun n => !decide (n = lb.name)) = true then .error (refI "mismatching label" (l[i]?.getD (.tok s t v r c))) else endS t lb ls (i + (if (idAt l i).isSome = true then 1 else 0)) (.tok s t v r c)
omit G md loc σ X R ids T B as in
theorem endR_lb {ls : List Lb} {lb : Lb} {base : Nat} {l : List It} {i : Nat} {s t : Str} {v : V} {r c : Int} (h : ¬ (ls ++ [lb]).length = base) : endR (ls ++ [lb]) base l i s t v r c = endT lb ls l i s t v r c := by
  refine (if_neg h).trans ?_
  rw [List.getLast?_append, List.getLast?_singleton, List.dropLast_concat]
  rfl
inductive EndK2 (σ0 : Store) (R : RA) (ids : V) (T B : List V) (n : Nat) (res : Except Exn (Nat × V × List Lb)) (loc' : Loc) (σ' : Store) : Prop
  | mk (l5 : loc'.lookup ("at" : Str) = some (.val (.int (n : Int)))) (iv : V) (as' : List (Addr × Addr × Lb)) (S : RS σ' R ids T (B ++ [iv]) as') (k : Kp σ0 σ') (h : res = .ok (n, iv, lsOf as'))
theorem k_end (C : Cx G) {rn dn : Addr} {l : List It} {i k b0 : Nat} {fold : Bool} {s t : Str} {v : V} {r c : Int} {Q : V → Store → Prop} (S : RS σ R ids T B as) (hR : RunAt σ rn dn l k fold (.int b0)) (hl : as.length ≤ 1000) (hb0 : b0 ≤ as.length) (hB : B.length ≤ 2 ^ 19) (hz : l.length ≤ 2 ^ 19)
    (ht : t = "else" ∨ t = "end") (hq : ∀ j iv ls', endR (lsOf as) b0 l i s t v r c = .ok (j, iv, ls') → ∀ σ' as', RS σ' R ids T (B ++ [iv]) as' → lsOf as' = ls' → Kp σ σ' → Q (.int (j : Nat)) σ')
    (hx : ∀ e, endR (lsOf as) b0 l i s t v r c = .error e → X e) : CallW G 9 (.ref 465) [.ref R.r, .ref rn, tokV s t v r c, .int i] σ Q X := by
  refine call_fn (n := 8) (fnO (ps := ["self", "run", "token", "at"]) C rfl rfl rfl rfl (bt4 fun _ _ _ _ _ => .of_eq rfl)) (by decide) (by decide) rfl fun L hL => ?_
  have S0 := S.upd (m := .mark) hL
  have R0 := hR.kp (.new (m := .mark) hL)
  have hlen : (lsOf as).length = as.length := by unfold lsOf; simp
  refine ex_cons <| ex_if <| ts_cmp <| bcall (b_len C) rfl (keep_builtin _) rfl rfl <| evs_cons (ev_slf C S0 rfl (by decide) rfl rfl <| evs_nil <| bi_len (n := as.length) (by unfold lenV; rw [lk_ref S0.ll]; simp) (by first | decide | (refine Nat.le_trans (by assumption) ?_; exact Nat.le_of_ble_eq_true rfl) | lia) <| ev_run C R0 rfl (by decide) rfl rfl ⟨_, cmp_int _ _, ?_⟩)
  by_cases h1 : as.length = b0
  · refine iteT (by simp [h1]) ?_
    exact ex_cons <| ex_expr <| gcall (n := 7) (g_refuse C) (keepF C rfl) rfl (by decide) rfl <| evs_cons <| ev_strC (by kernel_rfl) <| evs_cons <| ev_local rfl <| evs_nil <| c_refuse C (hx _ (if_pos (hlen.trans h1)))
  refine iteF (by simp; lia) <| ex_nil ?_
  rcases List.eq_nil_or_concat as with rfl | ⟨as0, p, hp⟩
  · simp at hb0; simp at h1; lia
  rw [List.concat_eq_append] at hp
  subst hp
  obtain ⟨x, dx, lb⟩ := p
  have e1 : lsOf (as0 ++ [(x, dx, lb)]) = lsOf as0 ++ [lb] := by unfold lsOf; simp
  have e0 : endR (lsOf (as0 ++ [(x, dx, lb)])) b0 l i s t v r c = endT lb (lsOf as0) l i s t v r c := by
    rw [e1]; exact endR_lb (by rw [← e1, hlen]; exact h1)
  have hll := S0.ll
  rw [List.map_append, List.map_cons, List.map_nil] at hll
  have hlb := S0.lbs (x, dx, lb) (by simp)
  refine ex_cons <| ex_assign (by rfl) <| ev_sub <| ev_slf C S0 rfl (by decide) rfl rfl <| ev_neg <| ev_int ⟨1, rfl, .ref x, .lst _ _ _ _ (lk_ref hll) (by first | decide | (refine Nat.le_trans (by assumption) ?_; exact Nat.le_of_ble_eq_true rfl) | lia) (ixAt_last (by simp)), ?_⟩
  refine ex_cut (EndK (upd σ L .mark) l lb R.r x (tokV s t v r c) i) ?_ ?_
  · refine ex_if <| ts_and <| ts_plain <| gcall (n := 1) (g_has_index C) (keepF C rfl) rfl (by decide) rfl <| evs_cons (ev_run C R0 rfl (by decide) rfl rfl <| evs_cons <| ev_local rfl <| evs_nil <| c_hi C (by first | decide | (refine Nat.le_trans (by assumption) ?_; exact Nat.le_of_ble_eq_true rfl) | lia) ⟨_, rfl, ?_⟩)
    rcases idAt_spec (l := l) (i := i) with ⟨s', t', v', r', c', hi, hs, hid, hh⟩ | ⟨hid, hh⟩
    · rw [hh]
      refine iteT rfl <| ts_and <| ts_cmp <| ev_ta C (by decide) <| ev_sub <| ev_run C R0 rfl (by decide) rfl rfl <| ev_local rfl <| item_at (by first | decide | (refine Nat.le_trans (by assumption) ?_; exact Nat.le_of_ble_eq_true rfl) | lia) hi ⟨s', t', v', r', c', _, itV_tok, rfl, rfl, ev_strC (by kernel_rfl) ⟨_, cmp_str _ _, iteT (by first | exact decide_eq_true (by assumption) | exact decide_eq_false (by assumption) | exact ndF (by assumption) | exact ndT (by assumption)) <| ts_and_nil <| iteT rfl ?_⟩⟩
      refine ex_cons <| ex_if <| ts_cmp <| ev_ta C (by decide) <| ev_sub <| ev_run C R0 rfl (by decide) rfl rfl <| ev_local rfl <| item_at (by first | decide | (refine Nat.le_trans (by assumption) ?_; exact Nat.le_of_ble_eq_true rfl) | lia) hi ⟨s', t', v', r', c', _, itV_tok, rfl, rfl, ev_lb C (by decide) <| ev_local rfl ⟨(x, dx, lb), _, rfl, hlb, rfl, rfl, _, cmp_strn _ _, ?_⟩⟩
      by_cases hn : t' = lb.name
      · refine iteF (by first | exact decide_eq_true (by assumption) | exact decide_eq_false (by assumption) | exact ndF (by assumption) | exact ndT (by assumption)) <| ex_nil ?_
        refine ex_cons <| ex_assign (by rfl) <| ev_bin <| ev_local rfl <| ev_int ⟨_, .add _ _, ex_nil ⟨rfl, by rw [hid]; simpa using hn, rfl, rfl, rfl, by rw [hid]; rfl⟩⟩
      · refine iteT (by first | exact decide_eq_true (by assumption) | exact decide_eq_false (by assumption) | exact ndF (by assumption) | exact ndT (by assumption)) ?_
        replace hx := hx _ (e0.trans (if_pos (by rw [hid]; simpa using hn)))
        rw [hi] at hx
        refine ex_cons <| ex_expr <| gcall (n := 7) (g_refuse C) (keepF C rfl) rfl (by decide) rfl <| evs_cons <| ev_strC (by kernel_rfl) <| evs_cons <| ev_sub <| ev_run C R0 rfl (by decide) rfl rfl <| ev_local rfl <| item_at (by first | decide | (refine Nat.le_trans (by assumption) ?_; exact Nat.le_of_ble_eq_true rfl) | lia) hi <| evs_nil <| c_ref C hx
    · have out : (false = true → False) := by decide
      cases hb : hiP l i with
      | false => exact iteF rfl <| iteF rfl <| ex_nil ⟨rfl, by rw [hid]; rfl, rfl, rfl, rfl, by rw [hid]; rfl⟩
      | true =>
        obtain ⟨s', t', v', r', c', hi, hs⟩ := hh hb
        exact iteT rfl <| ts_and <| ts_cmp <| ev_ta C (by decide) <| ev_sub <| ev_run C R0 rfl (by decide) rfl rfl <| ev_local rfl <| item_at (by first | decide | (refine Nat.le_trans (by assumption) ?_; exact Nat.le_of_ble_eq_true rfl) | lia) hi ⟨s', t', v', r', c', _, itV_tok, rfl, rfl, ev_strC (by kernel_rfl) ⟨_, cmp_str _ _, iteF (by first | exact decide_eq_true (by assumption) | exact decide_eq_false (by assumption) | exact ndF (by assumption) | exact ndT (by assumption)) <| iteF rfl <| ex_nil ⟨rfl, by rw [hid]; rfl, rfl, rfl, rfl, by rw [hid]; rfl⟩⟩⟩
  rintro loc' σ' ⟨rfl, hany, l1, l2, l3, l4⟩
  have e2 := e0.trans (if_neg (by rw [hany]; decide))
  refine ex_cut (EndK2 (upd σ L .mark) R ids T B (i + (if (idAt l i).isSome = true then 1 else 0)) (endS t lb (lsOf as0) (i + (if (idAt l i).isSome = true then 1 else 0)) (.tok s t v r c))) ?_ ?_
  · refine ex_if <| ts_cmp <| ev_ta C (by decide) <| ev_local l2 ⟨_, _, _, _, _, _, rfl, rfl, rfl, ev_strC (by kernel_rfl) ⟨_, cmp_str _ _, ?_⟩⟩
    by_cases h2 : t = "end"
    · refine iteT (by first | exact decide_eq_true (by assumption) | exact decide_eq_false (by assumption) | exact ndF (by assumption) | exact ndT (by assumption)) <| ex_cons <| ex_expr <| slf_call C (fa := 451) (n := 1) S0 rfl l1 (by decide) (by kernel_rfl) (keepF C rfl) (by decide) <| evs_nil <| k_close C S0 (by first | decide | (refine Nat.le_trans (by assumption) ?_; exact Nat.le_of_ble_eq_true rfl) | lia) (by simp at hl; lia) fun σ' S' K' => ex_nil ⟨l4, _, as0, S', K', if_pos h2⟩
    · refine iteF (by first | exact decide_eq_true (by assumption) | exact decide_eq_false (by assumption) | exact ndF (by assumption) | exact ndT (by assumption)) ?_
      have bad : ¬ (lb.word = "if" ∧ lb.els = false) → ∀ {p1 p2 p3 p4 p5 k1} {Q'} {rest}, ExW G ⟨8, none, _⟩ (.Expr (.Call (.Name "refuse" p1) [.Constant (.str "unexpected token") k1 p2, .Name "token" p3] [] p4) p5 :: rest) loc' (upd σ L .mark) Q' X := fun hw p1 p2 p3 p4 p5 k1 Q' rest =>
        ex_cons <| ex_expr <| gcall (md := ⟨8, none, [("self", .local), ("run", .local), ("token", .local), ("at", .local), ("label", .local), ("len", .globalImplicit), ("refuse", .globalImplicit), ("has_index", .globalImplicit), ("ELSE", .globalImplicit)]⟩) (n := 7) (g_refuse C) (keepF C rfl) rfl (by decide) rfl <| evs_cons <| ev_strC (by kernel_rfl) <| evs_cons <| ev_local l2 <| evs_nil <| c_refuse C (hx _ (e2.trans <| (if_neg h2).trans <| if_pos (by
          by_cases q : lb.word = "if"
          · exact .inr (by cases h : lb.els <;> simp_all)
          · exact .inl q)))
      refine ex_cons <| ex_if <| ts_or <| ts_cmp <| ev_lb C (by decide) <| ev_local l3 ⟨(x, dx, lb), _, rfl, hlb, rfl, rfl, ev_strC (by kernel_rfl) ⟨_, cmp_strn _ _, ?_⟩⟩
      by_cases h3 : lb.word = "if"
      · refine iteF (by first | exact decide_eq_true (by assumption) | exact decide_eq_false (by assumption) | exact ndF (by assumption) | exact ndT (by assumption)) <| ts_or <| ts_plain <| ev_lb C (by decide) <| ev_local l3 ⟨(x, dx, lb), _, rfl, hlb, rfl, rfl, _, rfl, iteB (fun h4 => iteT rfl ?_) fun h4 => ts_or_nil <| iteF rfl <| ex_nil ?_⟩
        · exact bad (fun q => by rw [h4] at q; cases q.2)
        have S1 := S0.setE { lb with els := true }
        have K1 : Kp (upd σ L .mark) (upd (upd σ L .mark) dx (.ns lbNs (lbVs { lb with els := true }))) := .put hlb.2 rfl
        refine ex_cons <| set_self C rfl (by decide) (by decide) <| ev_bool <| ev_local l3 ⟨rfl, hlb.1, hlb.2, ?_⟩
        refine ex_cons <| ex_expr <| lst_append rfl <| ev_slf C S1 l1 (by decide) rfl rfl ⟨_, _, rfl, S1.bb, ev_tuple <| evs_cons <| ev_global (g_ELSE C) rfl <| evs_nil ⟨by first | exact Nat.le_of_ble_eq_true rfl | simp, _, S1.bb, by lia, ?_⟩⟩
        exact ex_nil ⟨l4, _, _, S1.setB _, K1.trans (.put S1.bb rfl), by unfold endS; rw [if_neg h2, if_neg (by rw [h3, h4]; simp)]; unfold lsOf; simp⟩
      · refine iteT (by first | exact decide_eq_true (by assumption) | exact decide_eq_false (by assumption) | exact ndF (by assumption) | exact ndT (by assumption)) <| iteT rfl ?_
        exact bad (fun q => h3 q.1)
  · rintro loc'' σ'' ⟨l5, iv, as', S', K', he⟩
    exact ex_cons <| ex_return <| ev_local l5 <| hq _ _ _ (e2.trans he) _ as' (S'.leave K') rfl (K'.leave hL)
end
end Mine
end

section
namespace Mine
noncomputable def blockL : List Str := ["block", "loop", "if"]
/-- a plain instruction: the place behind it, what the body gets, the labels behind it -/
noncomputable def plainI (ls : List Lb) : Except Exn (V × Nat) → Except Exn (Nat × V × List Lb)
  | .ok (iv, j) => .ok (j, iv, ls)
  | .error e => .error e
noncomputable def plainR (ls : List Lb) (b0 : Nat) (l : List It) (i : Nat) (s t : Str) (v : V) (r c : Int) : Except Exn (Nat × V × List Lb) :=
  if blockL.any (· == t) = true then .ok (i + 1 + (if (idAt l (i + 1)).isSome = true then 1 else 0), .tup [codeV t, .int (-64)], ls ++ [⟨(idAt l (i + 1)).getD "", t, .tok s t v r c, false⟩])
  else if (["else", "end"] : List Str).any (· == t) = true then endR ls b0 l (i + 1) s t v r c
  else plainI ls (instrR (ls.map (·.name)) l (i + 1) s t v r c)
section
variable {G : Gd} {md : Md} {loc : Loc} {σ : Store} {X : Exn → Prop}
variable {R : RA} {ids : V} {T B : List V} {as : List (Addr × Addr × Lb)}

theorem k_plain (C : Cx G) {rn dn : Addr} {l : List It} {i b0 : Nat} {fold : Bool} {s t : Str} {v : V} {r c : Int} {Q : V → Store → Prop} (S : RS σ R ids T B as) (hR : RunAt σ rn dn l i fold (.int b0)) (hl : as.length ≤ 1000) (hb0 : b0 ≤ as.length) (hB : B.length ≤ 2 ^ 19) (hz : l.length ≤ 2 ^ 19)
    (ho : ∀ x ∈ l, ItOk x ∧ isBr x = false) (hf : blockL.any (· == t) = false → formOk t = true) (hi : i ≤ l.length) (hq : ∀ j iv ls', plainR (lsOf as) b0 l i s t v r c = .ok (j, iv, ls') → ∀ σ' as', RS σ' R ids T (B ++ [iv]) as' → lsOf as' = ls' → Kp σ σ' → Q (.int (j : Nat)) σ')
    (hx : ∀ e, plainR (lsOf as) b0 l i s t v r c = .error e → X e) : CallW G 12 (.ref 458) [.ref R.r, .ref rn, tokV s t v r c] σ Q X := by
  refine call_fn (n := 11) (fnO (ps := ["self", "run", "token"]) C rfl rfl rfl rfl (bt3 fun _ _ _ _ => .of_eq rfl)) (by decide) (by decide) rfl fun L hL => ?_
  have S0 := S.upd (m := .mark) hL
  have R0 := hR.kp (.new (m := .mark) hL)
  refine ex_cons <| ex_assign_tup (ns := ["items", "at"]) (o := some ["items", "at"]) rfl rfl (by decide) (by rfl) (.inr rfl) ?_
  refine ev_tuple <| evs_cons <| ev_run C R0 rfl (by decide) rfl rfl <| evs_cons (ev_bin <| ev_run C R0 rfl (by decide) rfl rfl <| ev_int ⟨_, .add _ _, evs_nil ⟨by first | exact Nat.le_of_ble_eq_true rfl | simp, _, rfl, rfl, ?_⟩⟩)
  rw [if_neg (by simp)]
  refine ex_cons <| ex_if <| ts_cmp <| ev_ta C (by decide) <| ev_local rfl ⟨_, _, _, _, _, _, rfl, rfl, rfl, ev_global (g_BLOCK_WORDS C) rfl ⟨blockL.any (· == t), rfl, iteB (fun h1 => ?_) fun h1 => ex_nil ?_⟩⟩
  · refine ex_cons <| ex_assign_tup (ns := ["label", "at"]) (o := none) rfl rfl (by decide) (by rfl) (.inl rfl) <| slf_call C (fa := 486) (n := 3) S0 rfl rfl (by decide) (by kernel_rfl) (keepF C rfl) (by decide) <| evs_cons <| ev_local rfl <| evs_cons <| ev_local rfl <| evs_cons <| ev_local rfl <| evs_nil ?_
    refine k_told C (i := i + 1) (by first | decide | (refine Nat.le_trans (by assumption) ?_; exact Nat.le_of_ble_eq_true rfl) | lia) fun x dx hx0 hdx0 hne => ⟨_, rfl, rfl, ?_⟩
    rw [if_pos rfl]
    have hdx1 : upd (upd σ L .mark) dx (.ns lbNs (lbVs ⟨(idAt l (i + 1)).getD "", t, .tok s t v r c, false⟩)) x = none := by rw [upd_ne _ _ hne]; exact hx0
    have S1 := (S0.upd (m := .ns lbNs (lbVs ⟨(idAt l (i + 1)).getD "", t, .tok s t v r c, false⟩)) hdx0).upd (m := .ins 370 dx) hdx1
    have K1 : Kp (upd σ L .mark) _ := (Kp.new (m := .ns lbNs (lbVs ⟨(idAt l (i + 1)).getD "", t, .tok s t v r c, false⟩)) hdx0).trans (.new (m := .ins 370 dx) hdx1)
    have hlb : LbAt (upd (upd (upd σ L .mark) dx (.ns lbNs (lbVs ⟨(idAt l (i + 1)).getD "", t, .tok s t v r c, false⟩))) x (.ins 370 dx)) (x, dx, ⟨(idAt l (i + 1)).getD "", t, .tok s t v r c, false⟩) := ⟨upd_eq .., (upd_ne _ _ hne.symm).trans (upd_eq ..)⟩
    have hdn : dx ∉ as.map (·.2.1) := fun q => by
      obtain ⟨p, hp, he⟩ := List.mem_map.mp q
      have := (S0.lbs p hp).2
      rw [he, hdx0] at this; cases this
    rw [show V.str t = V.str t from rfl]
    refine ex_cons <| ex_assign_tup (ns := ["kind", "at"]) (o := none) rfl rfl (by decide) (by rfl) (.inl rfl) <| slf_call C (fa := 493) (n := 3) (σ := upd (upd (upd σ L .mark) dx (.ns lbNs (lbVs ⟨(idAt l (i + 1)).getD "", t, .tok s t v r c, false⟩))) x (.ins 370 dx)) S1 rfl rfl (by decide) (by kernel_rfl) (keepF C rfl) (by decide) <| evs_cons <| ev_local rfl <| evs_cons <| ev_local rfl <| evs_nil ?_
    refine k_kind0 C (by first | decide | (refine Nat.le_trans (by assumption) ?_; exact Nat.le_of_ble_eq_true rfl) | lia) (fun y hy => ?_) ⟨_, rfl, rfl, ?_⟩
    · obtain ⟨k1, k2⟩ := ho y (List.mem_of_getElem? hy)
      cases y with
      | tok => exact ⟨rfl, show ("" : Str) ≠ "result" by decide, show ("" : Str) ≠ "type" by decide, show ("" : Str) ≠ "param" by decide⟩
      | br => cases k2
    rw [if_pos rfl]
    refine ex_cons <| ex_expr <| slf_call C (fa := 444) (n := 1) S1 rfl rfl (by decide) (by kernel_rfl) (keepF C rfl) (by decide) <| evs_cons (ev_tuple <| evs_cons (gcall (n := 1) (g_code_of C) (keepF C rfl) rfl (by decide) rfl <| evs_cons (ev_ta C (by decide) <| ev_local rfl ⟨_, _, _, _, _, _, rfl, rfl, rfl, evs_nil <| c_code C <| evs_cons <| ev_local rfl <| evs_nil ⟨by first | exact Nat.le_of_ble_eq_true rfl | simp, evs_cons <| ev_local rfl <| evs_nil ?_⟩⟩)))
    refine k_open C S1 (by first | decide | (refine Nat.le_trans (by assumption) ?_; exact Nat.le_of_ble_eq_true rfl) | lia) (by first | decide | (refine Nat.le_trans (by assumption) ?_; exact Nat.le_of_ble_eq_true rfl) | lia) hlb hdn fun σ' S' K' => ex_cons <| ex_return <| ev_local rfl ?_
    refine hq _ _ _ (if_pos h1) _ _ (S'.leave (K1.trans K')) (by unfold lsOf; simp) ((K1.trans K').leave hL)
  refine ex_cons <| ex_if <| ts_cmp <| ev_ta C (by decide) <| ev_local rfl ⟨_, _, _, _, _, _, rfl, rfl, rfl, ev_tupS rfl (by kernel_rfl) (by decide) ⟨(["else", "end"] : List Str).any (· == t), rfl, iteB (fun h2 => ?_) fun h2 => ex_nil ?_⟩⟩
  · have e0 := fun {ls : List Lb} => show plainR ls b0 l i s t v r c = _ from (if_neg (nb h1)).trans (if_pos h2)
    refine ex_cons <| ex_return <| slf_call C (fa := 465) (n := 9) S0 rfl rfl (by decide) (by kernel_rfl) (keepF C rfl) (by decide) <| evs_cons <| ev_local rfl <| evs_cons <| ev_local rfl <| evs_cons <| ev_local rfl <| evs_nil ?_
    refine k_end C (i := i + 1) S0 R0 hl hb0 hB hz ?_ (fun j iv ls' he σ' as' S' e' K' => hq j iv ls' (e0.trans he) _ as' (S'.leave K') e' (K'.leave hL)) fun e he => hx e (e0.trans he)
    rw [List.any_cons, List.any_cons, List.any_nil] at h2
    simp at h2
    rcases h2 with h | h
    · exact .inl h.symm
    · exact .inr h.symm
  have e0 : plainR (lsOf as) b0 l i s t v r c = plainI (lsOf as) (instrR (as.map (·.2.2.name)) l (i + 1) s t v r c) := by
    rw [← names_of]; exact (if_neg (nb h1)).trans (if_neg (nb h2))
  refine ex_cons <| ex_assign_tup (ns := ["instruction", "at"]) (o := none) rfl rfl (by decide) (by rfl) (.inl rfl) <| slf_call C (fa := 507) (n := 11) S0 rfl rfl (by decide) (by kernel_rfl) (keepF C rfl) (by decide) <| evs_cons <| ev_local rfl <| evs_cons <| ev_local rfl <| evs_cons <| ev_local rfl <| evs_nil ?_
  refine k_instr C (i := i + 1) S0 hl hz ho (hf h1) (fun iv j he => ⟨_, rfl, rfl, ?_⟩) fun e he => hx e (e0.trans (congrArg (plainI _) he))
  rw [if_pos rfl]
  refine ex_cons <| ex_expr <| lst_append rfl <| ev_slf C S0 rfl (by decide) rfl rfl ⟨_, _, rfl, S0.bb, ev_local rfl ⟨_, S0.bb, by lia, ?_⟩⟩
  have K1 : Kp (upd σ L .mark) (upd (upd σ L .mark) R.b (.lst (B ++ [iv]))) := .put S0.bb rfl
  refine ex_cons <| ex_return <| ev_local rfl ?_
  exact hq j iv _ (e0.trans (congrArg (plainI _) he)) _ as ((S0.setB (B ++ [iv])).leave K1) rfl (K1.leave hL)
end
end Mine
end

section
namespace Mine
/-- kept but for one run's own fields -/
noncomputable def Kr (dn : Addr) (σ σ' : Store) : Prop := ∀ a m, σ a = some m → kpt m = true → a ≠ dn → σ' a = some m
theorem Kp.r {σ σ' : Store} (h : Kp σ σ') (dn : Addr) : Kr dn σ σ' := fun a m e k _ => h a m e k
theorem Kr.trans {dn : Addr} {σ σ1 σ2 : Store} (x : Kr dn σ σ1) (y : Kr dn σ1 σ2) : Kr dn σ σ2 := fun a m h k n => y a m (x a m h k n) k n
theorem Kr.put {dn : Addr} {σ : Store} {m : MObj} : Kr dn σ (upd σ dn m) := fun a m1 e _ n => by rw [upd_ne _ _ n]; exact e
theorem Kr.leave {dn : Addr} {σ σ' : Store} {L : Addr} (hL : σ L = none) (h : Kr dn (upd σ L .mark) σ') : Kr dn σ (era σ' L) := fun a m e k n => by
  rw [era_ne _ (ne_of e hL)]; exact h a m (upd_out e hL) k n
theorem RS.leaveR {σ σ' : Store} {dn : Addr} {R : RA} {ids : V} {T B : List V} {as : List (Addr × Addr × Lb)} {L : Addr} (hd : dn ≠ L) (h : Kr dn (Mine.upd σ L .mark) σ') (S : RS σ' R ids T B as) : RS (era σ' L) R ids T B as :=
  S.mono fun a m e hm => by
    have := h L .mark (upd_eq ..) rfl hd.symm
    rw [era_ne _ (by rintro rfl; rw [this] at e; cases e; exact hm rfl)]; exact e
theorem RunAt.leaveR {σ σ' : Store} {rn dn : Addr} {l : List It} {i : Nat} {fold : Bool} {base : V} {L : Addr} (hd : dn ≠ L) (h : Kr dn (upd σ L .mark) σ') (S : RunAt σ' rn dn l i fold base) : RunAt (era σ' L) rn dn l i fold base := by
  have := h L .mark (upd_eq ..) rfl hd.symm
  have e1 := S.ins
  exact ⟨by rw [era_ne _ (fun q => by rw [q, this] at e1; cases e1)]; exact e1, by rw [era_ne _ hd]; exact S.ns⟩
theorem RS.setRun {σ : Store} {rn dn : Addr} {R : RA} {ids : V} {T B : List V} {as : List (Addr × Addr × Lb)} {l : List It} {i : Nat} {fold : Bool} {base : V} (S : RS σ R ids T B as) (hR : RunAt σ rn dn l i fold base) (vs : List V) : RS (Mine.upd σ dn (.ns rnNs vs)) R ids T B as := by
  refine ⟨upd_two S.ins hR.ns (by nofun), upd_two S.ns hR.ns (fun q => by injection q with q1 q2; revert q1; decide), upd_two S.tt hR.ns (by nofun), upd_two S.bb hR.ns (by nofun), upd_two S.ll hR.ns (by nofun), S.ne, fun p hp => ⟨upd_two (S.lbs p hp).1 hR.ns (by nofun), upd_two (S.lbs p hp).2 hR.ns (fun q => by injection q with q1 q2; revert q1; decide)⟩, S.nd⟩
theorem RunAt.set {σ : Store} {rn dn : Addr} {l : List It} {i : Nat} {fold : Bool} {base : V} (hR : RunAt σ rn dn l i fold base) (j : Nat) (base' : V) : RunAt (upd σ dn (.ns rnNs [.lst (itVs l), .int j, .bool fold, base'])) rn dn l j fold base' :=
  ⟨upd_two hR.ins hR.ns (by nofun), upd_eq ..⟩
noncomputable def TkOk (x : It) : Prop := ∃ s t v r c, x = .tok s t v r c ∧ ItOk x ∧ (s = "word" → blockL.any (· == t) = false → formOk t = true)
theorem TkOk.ok {x : It} (h : TkOk x) : ItOk x ∧ isBr x = false := by
  obtain ⟨s, t, v, r, c, rfl, h, _⟩ := h; exact ⟨h, rfl⟩
noncomputable def itemR (ls : List Lb) (l : List It) (i : Nat) : Except Exn (Nat × V × List Lb) := match l[i]? with
  | some (.tok s t v r c) => if s = "word" then plainR ls 0 l i s t v r c else .error (refI "unexpected token" (.tok s t v r c))
  | _ => .error (xLO "" 0)
section
variable {G : Gd} {md : Md} {loc : Loc} {σ : Store} {X : Exn → Prop}
variable {R : RA} {ids : V} {T B : List V} {as : List (Addr × Addr × Lb)}

inductive RunK (R : RA) (ids : V) (T B : List V) (as : List (Addr × Addr × Lb)) (rn dn : Addr) (l : List It) (i : Nat) (σ0 : Store) (loc' : Loc) (σ' : Store) : Prop
  | mk (l1 : loc'.lookup ("self" : Str) = some (.val (.ref R.r))) (l2 : loc'.lookup ("run" : Str) = some (.val (.ref rn))) (S : RS σ' R ids T B as) (A : RunAt σ' rn dn l i false (.int 0)) (k : Kr dn σ0 σ')
theorem k_run (C : Cx G) {rn dn : Addr} {l : List It} {i : Nat} {base : V} {Q : V → Store → Prop} (S : RS σ R ids T B as) (hR : RunAt σ rn dn l i false base) (hbase : (base = .none ∧ as = []) ∨ base = .int 0) (hl : as.length ≤ 1000) (hB : B.length ≤ 2 ^ 19) (hT : T.length ≤ 1000) (hz : l.length ≤ 2 ^ 19)
    (ho : ∀ x ∈ l, TkOk x) (hi : i ≤ l.length)
    (h1 : i = l.length → as = [] → ∀ σ', RS σ' R ids T B [] → Kr dn σ σ' → Q .none σ')
    (h2 : ∀ lb, i = l.length → (lsOf as).getLast? = some lb → X (refI "unexpected token" lb.tok))
    (h3 : ∀ j iv ls', i < l.length → itemR (lsOf as) l i = .ok (j, iv, ls') → ∀ σ' as', RS σ' R ids (T ++ [.tup [.str "run", .ref rn]]) (B ++ [iv]) as' → lsOf as' = ls' → RunAt σ' rn dn l j false (.int 0) → Kr dn σ σ' → Q .none σ')
    (h4 : ∀ e, i < l.length → itemR (lsOf as) l i = .error e → X e) : CallW G 13 (.ref 437) [.ref R.r, .ref rn] σ Q X := by
  refine call_fn (n := 12) (fnO (ps := ["self", "run"]) C rfl rfl rfl rfl (bt2 fun _ _ _ => .of_eq rfl)) (by decide) (by decide) rfl fun L hL => ?_
  have S0 := S.upd (m := .mark) hL
  have R0 := hR.kp (.new (m := .mark) hL)
  have hdL : dn ≠ L := ne_of hR.ns hL
  have lenL : ∀ {τ : Store}, RS τ R ids T B as → lenV τ (.ref R.l) = some as.length := fun S => by unfold lenV; rw [lk_ref S.ll]; simp
  refine ex_cut (RunK R ids T B as rn dn l i (upd σ L .mark)) ?_ ?_
  · refine ex_if <| ts_cmp <| ev_run C R0 rfl (by decide) rfl (by rcases hbase with ⟨rfl, _⟩ | rfl <;> rfl) <| ev_none ⟨isNoneV base, rfl, ?_⟩
    rcases hbase with ⟨rfl, has⟩ | rfl
    · refine iteT rfl <| ex_cons <| set_self C rfl (by decide) (by decide) <| bcall (b_len C) rfl (keep_builtin _) rfl rfl <| evs_cons (ev_slf C S0 rfl (by decide) rfl rfl <| evs_nil <| bi_len (n := as.length) (lenL S0) (by first | decide | (refine Nat.le_trans (by assumption) ?_; exact Nat.le_of_ble_eq_true rfl) | lia) <| ev_local rfl ⟨rfl, R0.ins, R0.ns, ?_⟩)
      subst has
      exact ex_nil ⟨rfl, rfl, S0.setRun R0 _, R0.set i (.int 0), .put⟩
    · exact iteF rfl <| ex_nil ⟨rfl, rfl, S0, R0, fun a m e _ _ => e⟩
  rintro loc' σ' ⟨l1, l2, S1, R1, K1⟩
  refine ex_cons <| ex_if <| ts_cmp <| ev_run C R1 l2 (by decide) rfl rfl <| bcall (b_len C) rfl (keep_builtin _) rfl rfl <| evs_cons (ev_run C R1 l2 (by decide) rfl rfl <| evs_nil <| bi_len (n := l.length) (by unfold lenV; show some (itVs l).length = _; rw [itVs_len]) (by first | decide | (refine Nat.le_trans (by assumption) ?_; exact Nat.le_of_ble_eq_true rfl) | lia) ⟨_, cmp_int _ _, ?_⟩)
  by_cases hil : i = l.length
  · refine iteT (by simp [hil]) ?_
    refine ex_cons <| ex_if <| ts_cmp <| bcall (b_len C) rfl (keep_builtin _) rfl rfl <| evs_cons (ev_slf C S1 l1 (by decide) rfl rfl <| evs_nil <| bi_len (n := as.length) (lenL S1) (by first | decide | (refine Nat.le_trans (by assumption) ?_; exact Nat.le_of_ble_eq_true rfl) | lia) <| ev_run C R1 l2 (by decide) rfl rfl ⟨decide ((0 : Int) < (as.length : Int)), rfl, ?_⟩)
    rcases List.eq_nil_or_concat as with rfl | ⟨as0, p, hp⟩
    · refine iteF (by simp) <| ex_nil <| ex_cons <| ex_return_none ?_
      exact h1 hil rfl _ (S1.leaveR hdL K1) (K1.leave hL)
    · rw [List.concat_eq_append] at hp
      subst hp
      refine iteT (by simp) ?_
      have hll := S1.ll
      rw [List.map_append, List.map_cons, List.map_nil] at hll
      have hx := h2 p.2.2 hil (by unfold lsOf; simp)
      refine ex_cons <| ex_expr <| gcall (n := 7) (g_refuse C) (keepF C rfl) rfl (by decide) rfl <| evs_cons <| ev_strC (by kernel_rfl) <| evs_cons (ev_lb C (by decide) <| ev_sub <| ev_slf C S1 l1 (by decide) rfl rfl <| ev_neg <| ev_int ⟨1, rfl, .ref p.1, .lst _ _ _ _ (lk_ref hll) (by first | decide | (refine Nat.le_trans (by assumption) ?_; exact Nat.le_of_ble_eq_true rfl) | lia) (ixAt_last (by simp)), p, _, rfl, S1.lbs p (by simp), rfl, ?_, evs_nil <| c_ref C hx⟩)
      obtain ⟨x, dx, ⟨n, w, tk, els⟩⟩ := p
      cases tk with
      | tok s t v r c => show plainV (itV (.tok s t v r c)) = true; rw [itV_tok]; rfl
      | br l r c => show plainV (itV (.br l r c)) = true; rw [itV_br]; rfl
  refine iteF (by simp; lia) <| ex_nil ?_
  have hlt : i < l.length := by lia
  obtain ⟨x, hx0⟩ : ∃ x, l[i]? = some x := ⟨_, List.getElem?_eq_getElem hlt⟩
  obtain ⟨s, t, v, r, c, rfl, hok, hfo⟩ := ho x (List.mem_of_getElem? hx0)
  have e0 : itemR (lsOf as) l i = if s = "word" then plainR (lsOf as) 0 l i s t v r c else .error (refI "unexpected token" (.tok s t v r c)) := by unfold itemR; rw [hx0]
  refine ex_cons <| ex_assign (by rfl) <| ev_sub <| ev_run C R1 l2 (by decide) rfl rfl <| ev_run C R1 l2 (by decide) rfl rfl <| item_at (by first | decide | (refine Nat.le_trans (by assumption) ?_; exact Nat.le_of_ble_eq_true rfl) | lia) hx0 ?_
  rw [itV_tok]
  refine ex_cons <| ex_expr <| lst_append rfl <| ev_slf C S1 l1 (by decide) rfl rfl ⟨_, _, rfl, S1.tt, ev_tuple <| evs_cons <| ev_strC (by kernel_rfl) <| evs_cons <| ev_local l2 <| evs_nil ⟨by first | exact Nat.le_of_ble_eq_true rfl | simp, _, S1.tt, by lia, ?_⟩⟩
  have S2 := S1.setT (T ++ [.tup [.str "run", .ref rn]])
  have K2 : Kp σ' (upd σ' R.t (.lst (T ++ [.tup [.str "run", .ref rn]]))) := .put S1.tt rfl
  have R2 := R1.kp K2
  refine ex_cons <| ex_if <| ts_plain <| isi_br (x := .tok s t v r c) C rfl rfl rfl <| ev_local rfl ⟨itV_tok.symm, _, rfl, iteF rfl ?_⟩
  refine ex_cons <| ex_if <| ts_or <| ts_plain <| ev_run C R2 l2 (by decide) rfl rfl ⟨_, rfl, iteF rfl ?_⟩
  refine ts_or <| ts_cmp <| ev_ta C (by decide) <| ev_local rfl ⟨_, _, _, _, _, _, rfl, rfl, rfl, ev_strC (by kernel_rfl) ⟨_, cmp_strn _ _, ?_⟩⟩
  by_cases hs : s = "word"
  · refine iteF (by first | exact decide_eq_true (by assumption) | exact decide_eq_false (by assumption) | exact ndF (by assumption) | exact ndT (by assumption)) <| ts_or_nil <| iteF rfl ?_
    refine ex_cons <| set_self C (own := rnNs) (D := 391) (ks := rnNs) (a := rn) (dx := dn) (vs := [.lst (itVs l), .int i, .bool false, .int 0]) rfl (by decide) (by decide) <| slf_call C (fa := 458) (n := 12) S2 rfl l1 (by decide) (by kernel_rfl) (keepF C rfl) (by decide) <| evs_cons <| ev_local l2 <| evs_cons <| ev_local rfl <| evs_nil ?_
    refine k_plain C (b0 := 0) S2 R2 hl (Nat.zero_le _) hB hz (fun x hx => (ho x hx).ok) (hfo hs) (by first | decide | (refine Nat.le_trans (by assumption) ?_; exact Nat.le_of_ble_eq_true rfl) | lia) (fun j iv ls' he σ3 as' S3 e3 K3 => ?_) fun e he => h4 e hlt (e0.trans ((if_pos hs).trans he))
    have R3 := R2.kp K3
    refine ev_local l2 ⟨rfl, R3.ins, R3.ns, ex_nil <| ex_nil <| ex_nil ?_⟩
    have K4 : Kr dn (upd σ L .mark) (upd σ3 dn (.ns rnNs [.lst (itVs l), .int j, .bool false, .int 0])) := K1.trans ((K2.r dn).trans ((K3.r dn).trans .put))
    exact h3 j iv ls' hlt (e0.trans ((if_pos hs).trans he)) _ as' ((S3.setRun R3 _).leaveR hdL K4) e3 ((R3.set j (.int 0)).leaveR hdL K4) (K4.leave hL)
  · refine iteT (by first | exact decide_eq_true (by assumption) | exact decide_eq_false (by assumption) | exact ndF (by assumption) | exact ndT (by assumption)) <| iteT rfl ?_
    have := h4 (refI "unexpected token" (.tok s t v r c)) hlt (e0.trans (if_neg hs))
    exact ex_cons <| ex_expr <| gcall (n := 7) (g_refuse C) (keepF C rfl) rfl (by decide) rfl <| evs_cons <| ev_strC (by kernel_rfl) <| evs_cons <| ev_local rfl <| evs_nil <| c_refuse C this
end
end Mine
end

section
namespace Mine
noncomputable def runAll (l : List It) : Nat → Nat → List V → List Lb → Option (Except Exn (List V))
  | 0, _, _, _ => none
  | k + 1, i, B, ls => if l.length < i ∨ 1000 < ls.length ∨ 1000 < B.length then none
    else if i = l.length then (match ls.getLast? with
      | none => some (.ok B)
      | some lb => some (.error (refI "unexpected token" lb.tok)))
    else match itemR ls l i with
      | .error e => some (.error e)
      | .ok (j, iv, ls') => runAll l k j (B ++ [iv]) ls'
theorem runAll_s {l : List It} {k i : Nat} {B : List V} {ls : List Lb} : runAll l (k + 1) i B ls = if l.length < i ∨ 1000 < ls.length ∨ 1000 < B.length then none
    else if i = l.length then (match ls.getLast? with
      | none => some (.ok B)
      | some lb => some (.error (refI "unexpected token" lb.tok)))
    else match itemR ls l i with
      | .error e => some (.error e)
      | .ok (j, iv, ls') => runAll l k j (B ++ [iv]) ls' := rfl
noncomputable def Mks (σ σ' : Store) : Prop := ∀ a, σ a = some .mark → σ' a = some .mark
theorem Kr.mks {dn : Addr} {σ σ' : Store} {m : MObj} (h : Kr dn σ σ') (hd : σ dn = some m) (hm : m ≠ .mark) : Mks σ σ' := fun a e => h a _ e rfl (by rintro rfl; rw [hd] at e; cases e; exact hm rfl)
theorem Kp.mks {σ σ' : Store} (h : Kp σ σ') : Mks σ σ' := fun a e => h a _ e rfl
theorem Mks.trans {σ σ1 σ2 : Store} (x : Mks σ σ1) (y : Mks σ1 σ2) : Mks σ σ2 := fun a h => y a (x a h)
theorem Mks.leave {σ σ' : Store} {L : Addr} (hL : σ L = none) (h : Mks (upd σ L .mark) σ') : Mks σ (era σ' L) := fun a e => by
  rw [era_ne _ (ne_of e hL)]; exact h a (upd_out e hL)
theorem Mks.new {σ : Store} {a : Addr} {m : MObj} (h : σ a = none) : Mks σ (upd σ a m) := fun b e => upd_out e h
section
variable {G : Gd} {md : Md} {loc : Loc} {σ : Store} {X : Exn → Prop}
variable {R : RA} {ids : V} {T B : List V} {as : List (Addr × Addr × Lb)}

theorem k_step (C : Cx G) {rn : Addr} {Q : V → Store → Prop} {R : RA} {ids : V} {T B : List V} {as : List (Addr × Addr × Lb)} (S : RS σ R ids T B as) (h : ∀ L, σ L = none → CallW G 13 (.ref 437) [.ref R.r, .ref rn] (upd σ L .mark) (fun _ σ' => Q .none (era σ' L)) X) : CallW G 14 (.ref 430) [.ref R.r, .tup [.str "run", .ref rn]] σ Q X := by
  refine call_fn (n := 13) (fnO (ps := ["self", "task"]) C rfl rfl rfl rfl (bt2 fun _ _ _ => .of_eq rfl)) (by decide) (by decide) rfl fun L hL => ?_
  have S0 := S.upd (m := .mark) hL
  refine ex_cons <| ex_assign_tup (ns := ["sort", "about"]) (o := none) rfl rfl (by decide) (by rfl) (.inl rfl) <| ev_local rfl ⟨_, rfl, rfl, ?_⟩
  rw [if_pos rfl]
  refine ex_cons <| ex_if <| ts_cmp <| ev_local rfl <| ev_strC (by kernel_rfl) ⟨false, by rw [cmp_str]; rfl, iteF rfl ?_⟩
  refine ex_cons <| ex_if <| ts_cmp <| ev_local rfl <| ev_strC (by kernel_rfl) ⟨false, by rw [cmp_str]; rfl, iteF rfl ?_⟩
  refine ex_cons <| ex_if <| ts_cmp <| ev_local rfl <| ev_strC (by kernel_rfl) ⟨false, by rw [cmp_str]; rfl, iteF rfl ?_⟩
  refine ex_cons <| ex_expr <| slf_call C (fa := 437) (n := 13) S0 rfl rfl (by decide) (by kernel_rfl) (keepF C rfl) (by decide) <| evs_cons <| ev_local rfl <| evs_nil ?_
  intro md' A env m loc' s vals q1 q2 q3 q4
  exact wpAny_mono (h L hL md' A env m loc' s vals q1 q2 q3 q4) (fun _ _ ⟨r, σ', a, b⟩ => ⟨r, σ', ex_nil <| ex_nil <| ex_nil <| ex_nil a, b⟩) fun _ _ z => z

inductive RdK (R : RA) (ids : V) (res : Except Exn (List V)) (σ0 : Store) (loc' : Loc) (σ' : Store) : Prop
  | mk (l1 : loc'.lookup ("self" : Str) = some (.val (.ref R.r))) (M : Mks σ0 σ') (B : List V) (S : RS σ' R ids [] B []) (h : res = .ok B) (hz : B.length ≤ 1000)
inductive RdT (R : RA) (ids : V) (rn dn : Addr) (l : List It) (res : Except Exn (List V)) (k : Nat) (σ' : Store) : Prop
  | run (i : Nat) (B : List V) (as : List (Addr × Addr × Lb)) (base : V) (S : RS σ' R ids [.tup [.str "run", .ref rn]] B as) (A : RunAt σ' rn dn l i false base) (hb : (base = .none ∧ as = []) ∨ base = .int 0) (h : runAll l k i B (lsOf as) = some res)
  | out (B : List V) (S : RS σ' R ids [] B []) (h : res = .ok B) (hz : B.length ≤ 1000)
inductive RdJ (R : RA) (ids : V) (rn dn : Addr) (l : List It) (res : Except Exn (List V)) (σ0 : Store) (us : List Unit) (loc' : Loc) (σ' : Store) : Prop
  | mk (l1 : loc'.lookup ("self" : Str) = some (.val (.ref R.r))) (M : Mks σ0 σ') (h : RdT R ids rn dn l res us.length σ')
theorem k_read (C : Cx G) {l : List It} {res : Except Exn (List V)} {k : Nat} {Q : V → Store → Prop} (S : RS σ R ids [] [] []) (hz : l.length ≤ 2 ^ 19) (ho : ∀ x ∈ l, TkOk x) (hr : runAll l k 0 [] [] = some res)
    (hq : ∀ B', res = .ok B' → ∀ σ', σ' R.b = some (.lst (B' ++ [.tup [.int 11]])) → Mks σ σ' → Q (.ref R.b) σ') (hx : ∀ e, res = .error e → X e) : CallW G 15 (.ref 423) [.ref R.r, .lst (itVs l)] σ Q X := by
  refine call_fn (n := 14) (fnO (ps := ["self", "items"]) C rfl rfl rfl rfl (bt2 fun _ _ _ => .of_eq rfl)) (by decide) (by decide) rfl fun L hL => ?_
  have S0 := S.upd (m := .mark) hL
  refine ex_cons <| ex_expr <| lst_append rfl <| ev_slf C S0 rfl (by decide) rfl rfl ⟨_, _, rfl, S0.tt, gcall (n := 3) (g_run_task C) (keepF C rfl) rfl (by decide) rfl <| evs_cons <| ev_local rfl <| evs_cons <| ev_int <| evs_cons <| ev_bool <| evs_nil <| c_run_task C fun rn dn hrn hdn hne => ?_⟩
  have hrn1 : upd (upd σ L .mark) dn (.ns rnNs [.lst (itVs l), .int 0, .bool false, .none]) rn = none := by rw [upd_ne _ _ hne]; exact hrn
  have S1 := (S0.upd (m := .ns rnNs [.lst (itVs l), .int 0, .bool false, .none]) hdn).upd (m := .ins 391 dn) hrn1
  have R1 : RunAt (upd (upd (upd σ L .mark) dn (.ns rnNs [.lst (itVs l), .int 0, .bool false, .none])) rn (.ins 391 dn)) rn dn l 0 false .none := ⟨upd_eq .., (upd_ne _ _ hne.symm).trans (upd_eq ..)⟩
  have M1 : Mks (upd σ L .mark) _ := (Mks.new (m := .ns rnNs [.lst (itVs l), .int 0, .bool false, .none]) hdn).trans (.new (m := .ins 391 dn) hrn1)
  refine ⟨_, S1.tt, by simp, ?_⟩
  have S2 := S1.setT [.tup [.str "run", .ref rn]]
  have K2 : Kp _ (upd _ R.t (.lst [.tup [.str "run", .ref rn]])) := .put S1.tt rfl
  have R2 := R1.kp K2
  have M2 := M1.trans K2.mks
  refine ex_cons <| ex_while _ (whl_ind2 (RdJ R ids rn dn l res (upd σ L .mark)) (RdK R ids res (upd σ L .mark)) ?_ ?_ (List.replicate k ()) _ _ ⟨rfl, M2, .run 0 [] [] .none S2 R2 (.inl ⟨rfl, rfl⟩) (by rw [List.length_replicate]; exact hr)⟩)
  · rintro loc' σ' ⟨l1, M, B, S', hB, hlen⟩
    refine ex_cons <| ex_expr <| lst_append rfl <| ev_slf C S' l1 (by decide) rfl rfl ⟨_, _, rfl, S'.bb, ev_tuple <| evs_cons <| ev_global (g_END C) rfl <| evs_nil ⟨by first | exact Nat.le_of_ble_eq_true rfl | simp, _, S'.bb, by lia, ?_⟩⟩
    refine ex_cons <| ex_return <| ev_slf C (S'.setB _) l1 (by decide) rfl rfl (hq B hB _ ?_ ?_)
    · have hL' := M L (upd_eq ..)
      rw [era_ne _ (by intro q; rw [← q, S'.bb] at hL'; cases hL'), upd_eq]
    · exact (M.trans (Kp.put S'.bb rfl).mks).leave hL
  · rintro us loc' σ' ⟨l1, M, ⟨i, B, as, base, S', R', hbase, hrun⟩ | ⟨B, S', hB, hlen⟩⟩
    · refine ts_ne_nil <| ev_slf C S' l1 (by decide) rfl rfl <| ev_list <| evs_nil ⟨by first | exact Nat.le_of_ble_eq_true rfl | simp, .inl ⟨_, lk_ref S'.tt, rfl, iteT rfl ?_⟩⟩
      cases us with
      | nil => cases hrun
      | cons u us =>
        refine ⟨u, us, rfl, ?_⟩
        rw [List.length_cons, runAll_s] at hrun
        split at hrun
        · cases hrun
        rename_i hguard
        have e1 : (lsOf as).length = as.length := by unfold lsOf; simp
        refine ex_cons <| ex_expr <| slf_call C (fa := 430) (n := 14) S' rfl l1 (by decide) (by kernel_rfl) (keepF C rfl) (by decide) <| evs_cons (lst_pop rfl <| ev_slf C S' l1 (by decide) rfl rfl ⟨R.t, [], _, rfl, S'.tt, by simp, evs_nil ?_⟩)
        have S3 := S'.setT []
        have K3 : Kp σ' (upd σ' R.t (.lst [])) := .put S'.tt rfl
        have R3 := R'.kp K3
        refine k_step C S3 fun L' hL' => ?_
        have S4 := S3.upd (m := .mark) hL'
        have R4 := R3.kp (.new (m := .mark) hL')
        have hdL : dn ≠ L' := ne_of R3.ns hL'
        have mk : ∀ {σ2}, Kr dn (upd (upd σ' R.t (.lst [])) L' .mark) σ2 → Mks (upd σ L .mark) (era σ2 L') := fun K => M.trans (K3.mks.trans ((K.leave hL').mks R3.ns (by nofun)))
        refine k_run C S4 R4 hbase (by first | decide | (refine Nat.le_trans (by assumption) ?_; exact Nat.le_of_ble_eq_true rfl) | lia) (by first | decide | (refine Nat.le_trans (by assumption) ?_; exact Nat.le_of_ble_eq_true rfl) | lia) (by simp) hz ho (by first | decide | (refine Nat.le_trans (by assumption) ?_; exact Nat.le_of_ble_eq_true rfl) | lia) (fun hi has σ2 S5 K5 => ?_) (fun lb hi hlb => ?_) (fun j iv ls' hi he σ2 as' S5 e5 R5 K5 => ?_) fun e hi he => ?_
        · subst has
          rw [if_pos hi] at hrun
          exact ex_nil ⟨l1, mk K5, .out B (S5.leaveR hdL K5) (by cases hrun; rfl) (by first | decide | (refine Nat.le_trans (by assumption) ?_; exact Nat.le_of_ble_eq_true rfl) | lia)⟩
        · rw [if_pos hi, hlb] at hrun
          exact hx _ (by cases hrun; rfl)
        · rw [if_neg (by first | decide | (refine Nat.le_trans (by assumption) ?_; exact Nat.le_of_ble_eq_true rfl) | lia), he] at hrun
          exact ex_nil ⟨l1, mk K5, .run j _ as' (.int 0) (S5.leaveR hdL K5) (R5.leaveR hdL K5) (.inr rfl) (by rw [e5]; exact hrun)⟩
        · rw [if_neg (by first | decide | (refine Nat.le_trans (by assumption) ?_; exact Nat.le_of_ble_eq_true rfl) | lia), he] at hrun
          exact hx _ (by cases hrun; rfl)
    · refine ts_ne_nil <| ev_slf C S' l1 (by decide) rfl rfl <| ev_list <| evs_nil ⟨by first | exact Nat.le_of_ble_eq_true rfl | simp, .inl ⟨_, lk_ref S'.tt, rfl, iteF rfl ⟨l1, M, B, S', hB, hlen⟩⟩⟩

theorem k_Reader_init (C : Cx G) {x dx : Addr} {ids : V} {Q : V → Store → Prop} (hx : σ x = some (.ins 564 dx)) (hd : σ dx = some (.ns [] [])) (hq : ∀ b l t σ', RS σ' ⟨x, dx, t, b, l⟩ ids [] [] [] → Mks σ σ' → Q .none σ') :
    CallC G 1 (.ref 416) [.ref x, .none, ids] σ Q X := by
  refine call_fnC (n := 0) (fnO (ps := ["self", "spaces", "local_ids"]) C rfl rfl rfl rfl (bt3 fun _ _ _ _ => .of_eq rfl)) (by decide) (by decide) rfl fun L hL => ?_
  have hdL := ne_of hd hL
  have hxL := ne_of hx hL
  have hxd : x ≠ dx := by rintro rfl; rw [hx] at hd; cases hd
  have h0 : upd σ L .mark x = some (.ins 564 dx) := upd_out hx hL
  have up : ∀ {τ : Store} {m}, τ x = some (.ins 564 dx) → upd τ dx m x = some (.ins 564 dx) := fun h => by rw [upd_ne _ _ hxd]; exact h
  refine ex_cons (set_self C (vs := []) rfl (by decide) (by decide) (ev_local rfl (ev_local rfl ⟨rfl, h0, upd_out hd hL, ?_⟩)))
  refine ex_cons (set_self C rfl (by decide) (by decide) (ev_local rfl (ev_local rfl ⟨rfl, up h0, upd_eq .., ?_⟩)))
  have m2 : Mks (upd σ L .mark) (upd (upd (upd σ L .mark) dx (.ns ["spaces"] [.none])) dx (.ns ["spaces", "local_ids"] [.none, ids])) := fun a e => by
    rw [upd_upd, upd_ne _ _ (by rintro rfl; rw [upd_out hd hL] at e; cases e)]; exact e
  have x2 := up (m := .ns ["spaces", "local_ids"] [.none, ids]) (up (m := .ns ["spaces"] [.none]) h0)
  have d2 : (upd (upd (upd σ L .mark) dx (.ns ["spaces"] [.none])) dx (.ns ["spaces", "local_ids"] [.none, ids])) dx = some (.ns ["spaces", "local_ids"] [.none, ids]) := upd_eq ..
  show ExW G _ _ _ (upd (upd (upd σ L .mark) dx (.ns ["spaces"] [.none])) dx (.ns ["spaces", "local_ids"] [.none, ids])) _ X
  generalize upd (upd (upd σ L .mark) dx (.ns ["spaces"] [.none])) dx (.ns ["spaces", "local_ids"] [.none, ids]) = τ2 at m2 x2 d2 ⊢
  refine ex_cons (set_self C rfl (by decide) (by decide) (ev_list (evs_nil ⟨by first | exact Nat.le_of_ble_eq_true rfl | simp, .inr fun b hb => ev_local rfl ⟨rfl, upd_out x2 hb, upd_out d2 hb, ?_⟩⟩)))
  have hbd := ne_of d2 hb
  have x3 := up (m := .ns ["spaces", "local_ids", "body"] [.none, ids, .ref b]) (upd_out (mo := .lst []) x2 hb)
  have b3 : upd (upd τ2 b (.lst [])) dx (.ns ["spaces", "local_ids", "body"] [.none, ids, .ref b]) b = some (.lst []) := (upd_ne _ _ hbd.symm).trans (upd_eq ..)
  have d3 : upd (upd τ2 b (.lst [])) dx (.ns ["spaces", "local_ids", "body"] [.none, ids, .ref b]) dx = some (.ns ["spaces", "local_ids", "body"] [.none, ids, .ref b]) := upd_eq ..
  have m3 : Mks (upd σ L .mark) (upd (upd τ2 b (.lst [])) dx (.ns ["spaces", "local_ids", "body"] [.none, ids, .ref b])) := fun a e => by
    have e2 := m2 a e
    rw [upd_ne _ _ (by rintro rfl; rw [d2] at e2; cases e2)]; exact upd_out e2 hb
  show ExW G _ _ _ (upd (upd τ2 b (.lst [])) dx (.ns ["spaces", "local_ids", "body"] [.none, ids, .ref b])) _ X
  generalize upd (upd τ2 b (.lst [])) dx (.ns ["spaces", "local_ids", "body"] [.none, ids, .ref b]) = τ3 at m3 x3 d3 b3 ⊢
  refine ex_cons (set_self C rfl (by decide) (by decide) (ev_list (evs_nil ⟨by first | exact Nat.le_of_ble_eq_true rfl | simp, .inr fun l hl => ev_local rfl ⟨rfl, upd_out x3 hl, upd_out d3 hl, ?_⟩⟩)))
  have hld := ne_of d3 hl
  have hlb := ne_of b3 hl
  have x4 := up (m := .ns ["spaces", "local_ids", "body", "labels"] [.none, ids, .ref b, .ref l]) (upd_out (mo := .lst []) x3 hl)
  have l4 : upd (upd τ3 l (.lst [])) dx (.ns ["spaces", "local_ids", "body", "labels"] [.none, ids, .ref b, .ref l]) l = some (.lst []) := (upd_ne _ _ hld.symm).trans (upd_eq ..)
  have b4 : upd (upd τ3 l (.lst [])) dx (.ns ["spaces", "local_ids", "body", "labels"] [.none, ids, .ref b, .ref l]) b = some (.lst []) := (upd_ne _ _ hbd.symm).trans (upd_out b3 hl)
  have d4 : upd (upd τ3 l (.lst [])) dx (.ns ["spaces", "local_ids", "body", "labels"] [.none, ids, .ref b, .ref l]) dx = some (.ns ["spaces", "local_ids", "body", "labels"] [.none, ids, .ref b, .ref l]) := upd_eq ..
  have m4 : Mks (upd σ L .mark) (upd (upd τ3 l (.lst [])) dx (.ns ["spaces", "local_ids", "body", "labels"] [.none, ids, .ref b, .ref l])) := fun a e => by
    have e2 := m3 a e
    rw [upd_ne _ _ (by rintro rfl; rw [d3] at e2; cases e2)]; exact upd_out e2 hl
  show ExW G _ _ _ (upd (upd τ3 l (.lst [])) dx (.ns ["spaces", "local_ids", "body", "labels"] [.none, ids, .ref b, .ref l])) _ X
  generalize upd (upd τ3 l (.lst [])) dx (.ns ["spaces", "local_ids", "body", "labels"] [.none, ids, .ref b, .ref l]) = τ4 at m4 x4 d4 b4 l4 ⊢
  refine ex_cons (set_self C rfl (by decide) (by decide) (ev_list (evs_nil ⟨by first | exact Nat.le_of_ble_eq_true rfl | simp, .inr fun t ht => ev_local rfl ⟨rfl, upd_out x4 ht, upd_out d4 ht, ?_⟩⟩)))
  have htd := ne_of d4 ht
  have htb := ne_of b4 ht
  have htl := ne_of l4 ht
  refine ex_nil ?_
  have m5 : Mks (upd σ L .mark) (upd (upd τ4 t (.lst [])) dx (.ns rdNs [.none, ids, .ref b, .ref l, .ref t])) := fun a e => by
    have e2 := m4 a e
    rw [upd_ne _ _ (by rintro rfl; rw [d4] at e2; cases e2)]; exact upd_out e2 ht
  have hL5 := m5 L (upd_eq ..)
  have S5 : RS (upd (upd τ4 t (.lst [])) dx (.ns rdNs [.none, ids, .ref b, .ref l, .ref t])) ⟨x, dx, t, b, l⟩ ids [] [] [] :=
    ⟨up (upd_out x4 ht), upd_eq .., (upd_ne _ _ htd.symm).trans (upd_eq ..), (upd_ne _ _ hbd.symm).trans (upd_out b4 ht), (upd_ne _ _ hld.symm).trans (upd_out l4 ht), ⟨hlb, htb, htl⟩, by simp, by simp⟩
  refine hq b l t _ (S5.mono fun a m e hm => ?_) (m5.leave hL)
  exact (era_ne _ (by rintro rfl; rw [hL5] at e; cases e; exact hm rfl)).trans e

theorem c_read (C : Cx G) {l : List It} {res : Except Exn (List V)} {k : Nat} {ids : V} {Q : V → Store → Prop} (hz : l.length ≤ 2 ^ 19) (ho : ∀ x ∈ l, TkOk x) (hr : runAll l k 0 [] [] = some res)
    (hq : ∀ B', res = .ok B' → ∀ σ' b, σ' b = some (.lst (B' ++ [.tup [.int 11]])) → Mks σ σ' → Q (.ref b) σ') (hx : ∀ e, res = .error e → X e) : CallW G 16 (.ref 575) [.none, ids, .lst (itVs l)] σ Q X := by
  refine call_fn (n := 15) (fnO (ps := ["spaces", "local_ids", "items"]) C rfl rfl rfl rfl (bt3 fun _ _ _ _ => .of_eq rfl)) (by decide) (by decide) rfl fun L hL => ?_
  refine ex_cons <| ex_return <| ev_method rfl <| gcall (n := 2) (g_BodyReader C) (keep_cls (m_Reader C)) rfl (by decide) rfl <| evs_cons <| ev_local rfl <| evs_cons <| ev_local rfl <| evs_nil ?_
  refine (call_clsC (n := 1) (m_Reader C) fun x dx hx0 hdx hne => k_Reader_init C (upd_eq ..) ((upd_ne _ _ hne.symm).trans (upd_eq ..)) fun b l' t σ' S M => ⟨rfl, ?_⟩).w
  have M0 : Mks (upd σ L .mark) σ' := ((Mks.new hdx).trans (.new (by rw [upd_ne _ _ hne]; exact hx0))).trans M
  refine ⟨_, _, 15, .own 564 _ _ 423 S.look (by decide) ⟨_, C.k, by kernel_rfl⟩, keepF C rfl, by decide, evs_cons <| ev_local rfl <| evs_nil ?_⟩
  refine k_read C S hz ho hr (fun B' hB σ2 hb M2 => ?_) hx
  have M3 := M0.trans M2
  have hL3 := M3 L (upd_eq ..)
  refine hq B' hB _ _ ?_ (M3.leave hL)
  exact (era_ne _ (by intro q; rw [q, hL3] at hb; cases hb)).trans hb
end
end Mine
end

section
namespace Mine
/-- the sort of a text -/
noncomputable def sortT (t : Str) : Str := match t.cps.toList[(0 : Nat)]? with
  | some c => if hasS "+-0123456789" ⟨#[c]⟩ = true then "int" else if (⟨#[c]⟩ : Str) = "$" then "id" else if decide ([c] < ("a" : Str).cps.toList) = false ∧ decide (("z" : Str).cps.toList < [c]) = false then "word" else "reserved"
  | none => ""
noncomputable def intT (t : Str) : Int := (PySem.intText? t).getD 0
noncomputable def valT (t : Str) : V := if sortT t = "int" then .int (intT t) else .str t
noncomputable def rowOf (p : Nat) : Int := 1 + (p : Int).fdiv 7
noncomputable def colOf (p : Nat) : Int := 1 + (p : Int).fmod 7
noncomputable def tkT (t : Str) (p : Nat) : It := .tok (sortT t) t (valT t) (rowOf p) (colOf p)
noncomputable def itemsT (ts : List Str) : List It := ts.mapIdx fun i t => tkT t i
/-- a text that the rules can read -/
structure Txt0 (t : Str) : Prop where
  len : t.length ≤ 20
  fit : Fit t
  hd : ∃ c, t.cps.toList[(0 : Nat)]? = some c
  int : sortT t = "int" → PySem.intText? t = some (intT t)
noncomputable def refP (t : Str) : Str := refWhy "unexpected token" (sortT t)
noncomputable def lawNo (t : Str) (p : Int) : Str × Int := (refP t, p)
noncomputable def lawLabel (names : List Str) (t : Str) (p : Nat) : Except (Str × Int) Int :=
  if sortT t = "id" then (match idxS names.reverse t with
    | some k => .ok k
    | none => .error ("unknown label " ++ t, p))
  else if sortT t ≠ "int" ∨ signB t = true then .error (refP t, p)
  else if intT t < 2 ^ 32 then .ok (intT t) else .error ("i32 constant out of range", p)
noncomputable def wrongV (w : Str × Int) : V := .tup [.str w.1, .int w.2]
noncomputable def labV : Except (Str × Int) Int → V
  | .ok n => .int n
  | .error w => wrongV w
theorem idxS_none : ∀ {l : List Str} {x : Str}, l.any (· == x) = false → idxS l x = none
  | [], x, h => rfl
  | y :: l, x, h => by
    rw [List.any_cons, Bool.or_eq_false_iff] at h
    unfold idxS
    rw [if_neg (by simpa using h.1), idxS_none h.2]; rfl
section
variable {G : Gd} {md : Md} {loc : Loc} {σ : Store} {X : Exn → Prop}

theorem c_sort (C : Cx G) {t : Str} {Q : V → Store → Prop} (ht : Txt0 t) (hq : Q (.str (sortT t)) σ) : CallW G 1 (.ref 606) [.str t] σ Q X := by
  obtain ⟨c, hc⟩ := ht.hd
  refine call_fn (n := 0) (fnO (ps := ["text"]) C rfl rfl rfl rfl (bt1 fun _ _ => .of_eq rfl)) (by decide) (by decide) rfl fun L hL => ?_
  have fin : ∀ v, v = V.str (sortT t) → Q v (era (upd σ L .mark) L) := fun v e => by rw [era_upd hL, e]; exact hq
  have e : sortT t = (if hasS "+-0123456789" ⟨#[c]⟩ = true then ("int" : Str) else if (⟨#[c]⟩ : Str) = "$" then ("id" : Str) else if decide ([c] < ("a" : Str).cps.toList) = false ∧ decide (("z" : Str).cps.toList < [c]) = false then ("word" : Str) else ("reserved" : Str)) := by unfold sortT; rw [hc]
  refine ex_cons <| ex_if <| ts_cmp <| ev_first <| ev_local rfl ⟨t, c, rfl, hc, ev_strC (by kernel_rfl) ⟨hasS "+-0123456789" ⟨#[c]⟩, rfl, iteB (fun h1 => ?_) fun h1 => ex_nil ?_⟩⟩
  · exact ex_cons <| ex_return <| ev_strC (by kernel_rfl) (fin _ (by rw [e, if_pos h1]))
  rw [if_neg (by rw [h1]; decide)] at e
  refine ex_cons <| ex_if <| ts_cmp <| ev_first <| ev_local rfl ⟨t, c, rfl, hc, ev_strC (by kernel_rfl) ⟨_, cmp_str _ _, iteB (fun h2 => ?_) fun h2 => ex_nil ?_⟩⟩
  · exact ex_cons <| ex_return <| ev_strC (by kernel_rfl) (fin _ (by rw [e, if_pos (of_decide_eq_true h2)]))
  rw [if_neg (of_decide_eq_false h2)] at e
  refine ex_cons <| ex_return <| ev_ifexp <| ts_cmp2 <| ev_strC (by kernel_rfl) <| ev_first <| ev_local rfl ⟨t, c, rfl, hc, !decide ([c] < ("a" : Str).cps.toList), rfl, iteB (fun h3 => ?_) fun h3 => ?_⟩
  · refine ev_strC (by kernel_rfl) ⟨!decide (("z" : Str).cps.toList < [c]), rfl, iteB (fun h4 => ?_) fun h4 => ?_⟩
    · exact ev_strC (by kernel_rfl) (fin _ (by rw [e, if_pos ⟨by simpa using h3, by simpa using h4⟩]))
    · exact ev_strC (by kernel_rfl) (fin _ (by rw [e, if_neg (fun q => by rw [q.2] at h4; cases h4)]))
  · exact iteF rfl <| ev_strC (by kernel_rfl) (fin _ (by rw [e, if_neg (fun q => by rw [q.1] at h3; cases h3)]))

theorem c_law_token (C : Cx G) {t : Str} {p : Nat} {Q : V → Store → Prop} (ht : Txt0 t) (hq : Q (itV (tkT t p)) σ) : CallW G 3 (.ref 613) [.str t, .int p] σ Q X := by
  refine call_fn (n := 2) (fnO (ps := ["text", "place"]) C rfl rfl rfl rfl (bt2 fun _ _ _ => .of_eq rfl)) (by decide) (by decide) rfl fun L hL => ?_
  refine ex_cons <| ex_assign (by rfl) <| gcall (n := 1) (g__law_sort C) (keepF C rfl) rfl (by decide) rfl <| evs_cons <| ev_local rfl <| evs_nil <| c_sort C ht ?_
  have fin : Q (itV (tkT t p)) (era (upd σ L .mark) L) := by rw [era_upd hL]; exact hq
  unfold tkT at fin
  rw [itV_tok] at fin
  refine ex_cons <| ex_return <| gcall (n := 2) (g_Token C) (keep_cls (m_Token C)) rfl (by decide) rfl <| evs_cons <| ev_local rfl <| evs_cons <| ev_local rfl <| evs_cons (EvW.mono (Q := fun v σ' => v = valT t ∧ σ' = upd σ L .mark) ?_ (fun v σ' ⟨h1, h2⟩ => ?_) fun _ z => z)
  · refine ev_ifexp <| ts_cmp <| ev_local rfl <| ev_strC (by kernel_rfl) ⟨_, cmp_str _ _, ?_⟩
    by_cases h : sortT t = "int"
    · exact iteT (by first | exact decide_eq_true (by assumption) | exact decide_eq_false (by assumption) | exact ndF (by assumption) | exact ndT (by assumption)) <| bcall (b_int C) rfl (keep_type _) rfl rfl <| evs_cons <| ev_local rfl <| evs_nil <| bi_int_str (ht.int h) (by have := ht.len; lia) ⟨by unfold valT; rw [if_pos h], rfl⟩
    · exact iteF (by first | exact decide_eq_true (by assumption) | exact decide_eq_false (by assumption) | exact ndF (by assumption) | exact ndT (by assumption)) <| ev_local rfl ⟨by unfold valT; rw [if_neg h], rfl⟩
  subst h1 h2
  refine evs_cons (ev_bin <| ev_int <| ev_bin <| ev_local rfl <| ev_int ⟨_, .fdiv _ _ (by decide) (by decide), _, .add _ _, ?_⟩)
  refine evs_cons (ev_bin <| ev_int <| ev_bin <| ev_local rfl <| ev_int ⟨_, .mod _ _ (by decide), _, .add _ _, ?_⟩)
  exact evs_nil <| c_Token C fin

theorem c_law_no (C : Cx G) {t : Str} {p : Int} {Q : V → Store → Prop} (ht : Txt0 t) (hq : Q (wrongV (refP t, p)) σ) : CallW G 2 (.ref 620) [.str t, .int p] σ Q X := by
  refine call_fn (n := 1) (fnO (ps := ["text", "place"]) C rfl rfl rfl rfl (bt2 fun _ _ _ => .of_eq rfl)) (by decide) (by decide) rfl fun L hL => ?_
  have fin : ∀ v, v = wrongV (refP t, p) → Q v (era (upd σ L .mark) L) := fun v e => by rw [era_upd hL, e]; exact hq
  refine ex_cons <| ex_return <| ev_tuple <| evs_cons (ev_ifexp <| ts_cmp <| gcall (n := 1) (g__law_sort C) (keepF C rfl) rfl (by decide) rfl <| evs_cons <| ev_local rfl <| evs_nil <| c_sort C ht <| ev_strC (by kernel_rfl) ⟨_, cmp_str _ _, ?_⟩)
  by_cases h : sortT t = "reserved"
  · exact iteT (by first | exact decide_eq_true (by assumption) | exact decide_eq_false (by assumption) | exact ndF (by assumption) | exact ndT (by assumption)) <| ev_strC (by kernel_rfl) <| evs_cons <| ev_local rfl <| evs_nil ⟨by first | exact Nat.le_of_ble_eq_true rfl | simp, fin _ (by unfold wrongV refP refWhy; rw [if_pos ⟨rfl, h⟩])⟩
  · exact iteF (by first | exact decide_eq_true (by assumption) | exact decide_eq_false (by assumption) | exact ndF (by assumption) | exact ndT (by assumption)) <| ev_strC (by kernel_rfl) <| evs_cons <| ev_local rfl <| evs_nil ⟨by first | exact Nat.le_of_ble_eq_true rfl | simp, fin _ (by unfold wrongV refP refWhy; rw [if_neg (fun q => h q.2)])⟩

theorem c_law_label (C : Cx G) {t : Str} {p : Nat} {names : List Str} {Q : V → Store → Prop} (ht : Txt0 t) (hz : names.length ≤ 1000) (hq : Q (labV (lawLabel names t p)) σ) : CallW G 3 (.ref 627) [.str t, .int p, .lst (names.map V.str)] σ Q X := by
  obtain ⟨c, hc⟩ := ht.hd
  refine call_fn (n := 2) (fnO (ps := ["text", "place", "names"]) C rfl rfl rfl rfl (bt3 fun _ _ _ _ => .of_eq rfl)) (by decide) (by decide) rfl fun L hL => ?_
  have fin : ∀ v, v = labV (lawLabel names t p) → Q v (era (upd σ L .mark) L) := fun v e => by rw [era_upd hL, e]; exact hq
  unfold lawLabel at fin
  refine ex_cons <| ex_assign (by rfl) <| gcall (n := 1) (g__law_sort C) (keepF C rfl) rfl (by decide) rfl <| evs_cons <| ev_local rfl <| evs_nil <| c_sort C ht ?_
  refine ex_cons <| ex_if <| ts_cmp <| ev_local rfl <| ev_strC (by kernel_rfl) ⟨_, cmp_str _ _, ?_⟩
  by_cases h : sortT t = "id"
  · rw [if_pos h] at fin
    refine iteT (by first | exact decide_eq_true (by assumption) | exact decide_eq_false (by assumption) | exact ndF (by assumption) | exact ndT (by assumption)) ?_
    refine ex_cons <| ex_if <| ts_cmp <| ev_local rfl <| ev_local rfl ⟨!names.any (· == t), by show ((strItems (names.map V.str)).map _).map _ = _; rw [strItems_map]; rfl, ?_⟩
    cases hn : names.any (· == t) with
    | false =>
      refine iteT rfl <| ex_cons <| ex_return <| ev_tuple <| evs_cons (ev_bin <| ev_strC (by kernel_rfl) <| ev_local rfl ⟨_, .cat _ _ (by have := ht.len; show 14 + t.length ≤ 2 ^ 20; lia), ?_⟩)
      refine evs_cons <| ev_local rfl <| evs_nil ⟨by first | exact Nat.le_of_ble_eq_true rfl | simp, fin _ ?_⟩
      rw [idxS_none (by rw [List.any_reverse]; exact hn)]; rfl
    | true =>
      obtain ⟨k, hk⟩ := idxS_some (l := names.reverse) (x := t) (by rw [List.any_reverse]; exact hn)
      refine iteF rfl <| ex_nil <| ex_cons <| ex_return <| ev_method rfl <| ev_rev <| ev_local rfl ⟨_, rfl, by simp; lia, .inl ⟨.builtin "list.index", _, 0, .blt "list" "list.index" rfl F.plainAttrs_list F.slot_list_index (by kernel_rfl), keep_builtin _, Nat.zero_le _, evs_cons <| ev_local rfl <| evs_nil ?_⟩⟩
      refine m_index (ss := names.reverse) rfl (by rw [← List.map_reverse, strItems_map]) (by simp; lia) hk (fin _ ?_)
      rw [hk]; rfl
  rw [if_neg h] at fin
  refine iteF (by first | exact decide_eq_true (by assumption) | exact decide_eq_false (by assumption) | exact ndF (by assumption) | exact ndT (by assumption)) <| ex_nil ?_
  have hs : signB t = hasS "+-" ⟨#[c]⟩ := by unfold signB; rw [hc]
  refine ex_cut (fun loc' σ' => σ' = upd σ L .mark ∧ loc'.lookup ("text" : Str) = some (.val (.str t)) ∧ loc'.lookup ("place" : Str) = some (.val (.int (p : Int))) ∧ sortT t = "int" ∧ signB t = false) ?_ ?_
  · refine ex_if <| ts_or <| ts_cmp <| ev_local rfl <| ev_strC (by kernel_rfl) ⟨_, cmp_strn _ _, ?_⟩
    have bad : (sortT t ≠ "int" ∨ signB t = true) → Q (wrongV (refP t, p)) (era (upd σ L .mark) L) := fun q => by rw [if_pos q] at fin; exact fin _ rfl
    by_cases h2 : sortT t = "int"
    · refine iteF (by first | exact decide_eq_true (by assumption) | exact decide_eq_false (by assumption) | exact ndF (by assumption) | exact ndT (by assumption)) <| ts_or <| ts_cmp <| ev_first <| ev_local rfl ⟨t, c, rfl, hc, ev_strC (by kernel_rfl) ⟨signB t, congrArg some hs.symm, iteB (fun h3 => ?_) fun h3 => ?_⟩⟩
      · exact iteT rfl <| ex_cons <| ex_return <| gcall (n := 2) (g__law_no C) (keepF C rfl) rfl (by decide) rfl <| evs_cons <| ev_local rfl <| evs_cons <| ev_local rfl <| evs_nil <| c_law_no C ht (bad (.inr h3))
      · exact ts_or_nil <| iteF rfl <| ex_nil ⟨rfl, rfl, rfl, h2, h3⟩
    · exact iteT (by first | exact decide_eq_true (by assumption) | exact decide_eq_false (by assumption) | exact ndF (by assumption) | exact ndT (by assumption)) <| iteT rfl <| ex_cons <| ex_return <| gcall (n := 2) (g__law_no C) (keepF C rfl) rfl (by decide) rfl <| evs_cons <| ev_local rfl <| evs_cons <| ev_local rfl <| evs_nil <| c_law_no C ht (bad (.inl h2))
  rintro loc' σ' ⟨rfl, l1, l2, h2, h3⟩
  rw [if_neg (by rw [h2, h3]; decide)] at fin
  refine ex_cons <| ex_return <| ev_ifexp <| ts_cmp <| bcall (b_int C) rfl (keep_type _) rfl rfl <| evs_cons <| ev_local l1 <| evs_nil <| bi_int_str (ht.int h2) (by have := ht.len; lia) <| ev_bin <| ev_int <| ev_int ⟨_, .pow _ _ (by decide) (by decide) (by decide), decide (intT t < 2 ^ 32), rfl, iteB (fun h4 => ?_) fun h4 => ?_⟩
  · rw [if_pos (of_decide_eq_true h4)] at fin
    exact bcall (b_int C) rfl (keep_type _) rfl rfl <| evs_cons <| ev_local l1 <| evs_nil <| bi_int_str (ht.int h2) (by have := ht.len; lia) (fin _ rfl)
  · rw [if_neg (of_decide_eq_false h4)] at fin
    exact ev_tuple <| evs_cons <| ev_strC (by kernel_rfl) <| evs_cons <| ev_local l2 <| evs_nil ⟨by first | exact Nat.le_of_ble_eq_true rfl | simp, fin _ rfl⟩
end
end Mine
end

section
namespace Mine
noncomputable def runT (ts : List Str) (i : Nat) : List Str := (ts.drop i).takeWhile fun t => hiB (sortT t)
theorem runT_cons {ts : List Str} {i : Nat} {t : Str} (h : ts[i]? = some t) (hs : hiB (sortT t) = true) : runT ts i = t :: runT ts (i + 1) := by
  unfold runT
  obtain ⟨hl, he⟩ := List.getElem?_eq_some_iff.mp h
  rw [List.drop_eq_getElem_cons hl, he, List.takeWhile_cons, if_pos hs]
theorem runT_stop {ts : List Str} {i : Nat} (h : ∀ t, ts[i]? = some t → hiB (sortT t) = false) : runT ts i = [] := by
  unfold runT
  cases hi : ts[i]? with
  | none => rw [List.drop_eq_nil_of_le (by simpa using hi)]; rfl
  | some t =>
    obtain ⟨hl, he⟩ := List.getElem?_eq_some_iff.mp hi
    rw [List.drop_eq_getElem_cons hl, he, List.takeWhile_cons, if_neg (by rw [h t hi]; decide)]
theorem runT_len (ts : List Str) (i : Nat) : (runT ts i).length + i ≤ ts.length ∨ runT ts i = [] := by
  rcases Nat.lt_or_ge i ts.length with h | h
  · left
    have : (runT ts i).length ≤ (ts.drop i).length := (List.takeWhile_sublist _).length_le
    rw [List.length_drop] at this; lia
  · right; unfold runT; rw [List.drop_eq_nil_of_le h]; rfl
noncomputable def manyOf (word : Str) (ts : List Str) (i1 : Nat) : Nat := if word = "br_table" then 1 + (runT ts (i1 + 1)).length else 1
noncomputable def goalsE (names : List Str) (ts : List Str) (i1 many : Nat) : List (Except (Str × Int) Int) := (List.range many).map fun k => lawLabel names (ts.getD (i1 + k) "") (i1 + k)
noncomputable def isE : Except (Str × Int) Int → Bool
  | .error _ => true
  | .ok _ => false
noncomputable def brIx (word : Str) : Int := (((idxS ["br", "br_if", "br_table"] word).getD 0 : Nat) : Int)
noncomputable def branchV (word : Str) (ts : List Str) (i1 : Nat) (names : List Str) : V := match ts[i1]? with
  | none => wrongV ("unexpected token", (i1 : Int) - 1)
  | some t1 => if (["word", "reserved"] : List Str).any (· == sortT t1) = true then wrongV (refP t1, i1) else
    match (goalsE names ts i1 (manyOf word ts i1)).filter isE with
    | g :: _ => labV g
    | [] => .tup [.int (brIx word), .lst ((goalsE names ts i1 (manyOf word ts i1)).map labV)]
section
variable {G : Gd} {md : Md} {loc : Loc} {σ : Store} {X : Exn → Prop}

theorem compL_all {α : Type} {target elt : Expr} (f g : α → V) {as : List α} : (∀ a ∈ as, ∃ loc', bindT target (f a) loc = some loc' ∧ ∀ σ', Ext σ σ' → EvW G md elt loc' σ' (fun r σ'' => r = g a ∧ σ'' = σ') (fun _ => False)) → CompL G md target [] elt loc σ (as.map f) (as.map g) := by
  induction as with
  | nil => intro _; rfl
  | cons a as ih =>
    intro h
    obtain ⟨loc', h1, h2⟩ := h a (List.mem_cons_self ..)
    exact ⟨loc', h1, true, fun _ _ => rfl, iteT rfl ⟨g a, _, rfl, h2, ih fun b hb => h b (List.mem_cons_of_mem _ hb)⟩⟩
theorem compL_filter {α : Type} {target elt tst : Expr} (f g : α → V) (p : α → Bool) {as : List α} : (∀ a ∈ as, ∃ loc', bindT target (f a) loc = some loc' ∧ (∀ σ', Ext σ σ' → TsW G md tst loc' σ' (fun b' σ'' => b' = p a ∧ σ'' = σ') (fun _ => False)) ∧ (p a = true → ∀ σ', Ext σ σ' → EvW G md elt loc' σ' (fun r σ'' => r = g a ∧ σ'' = σ') (fun _ => False))) →
    CompL G md target [tst] elt loc σ (as.map f) ((as.filter p).map g) := by
  induction as with
  | nil => intro _; rfl
  | cons a as ih =>
    intro h
    obtain ⟨loc', h1, h2, h3⟩ := h a (List.mem_cons_self ..)
    replace ih := ih fun b hb => h b (List.mem_cons_of_mem _ hb)
    refine ⟨loc', h1, p a, h2, iteB (fun hp => ?_) fun hp => ?_⟩
    · rw [List.filter_cons_of_pos hp]
      exact ⟨g a, _, rfl, h3 hp, ih⟩
    · rw [List.filter_cons_of_neg (by rw [hp]; decide)]; exact ih
theorem Ext.cell {σ σ' : Store} {c : Addr} {v : V} (h : Ext σ σ') (e : σ c = some (.cell v)) : σ' c = some (.cell v) := by rw [h c (by rw [e]; nofun)]; exact e
theorem Ext.refl (σ : Store) : Ext σ σ := fun _ _ => rfl

theorem strs_get {ts : List Str} {i : Nat} {t : Str} (h : ts[i]? = some t) : (ts.map V.str)[i]? = some (.str t) := by rw [List.getElem?_map, h]; rfl
/-- the item of a list of texts -/
theorem item_str {ts : List Str} {i : Nat} {t : Str} {Q : V → Store → Prop} (hz : ts.length ≤ 2 ^ 20) (h : ts[i]? = some t) (hp : Q (.str t) σ) : SubR (.lst (ts.map V.str)) Q (.int (i : Int)) σ :=
  item_tok rfl (by simpa using hz) (strs_get h) hp
theorem lenV_strs {ts : List Str} : lenV σ (.lst (ts.map V.str)) = some ts.length := by show some (ts.map V.str).length = _; rw [List.length_map]

theorem clOf_skip {n : Str} {k : NameKind} {r : List (Str × NameKind)} {loc : Loc} {acc : List (Str × Addr)} (h : (k == NameKind.free) = false) : clOf ((n, k) :: r) loc acc = clOf r loc acc := by
  show (if (k == NameKind.free) = true then _ else clOf r loc acc) = _
  rw [if_neg (by rw [h]; decide)]
theorem clOf_free {n : Str} {r : List (Str × NameKind)} {loc : Loc} {acc : List (Str × Addr)} {c : Addr} (h : loc.lookup n = some (.cell c)) : clOf ((n, .free) :: r) loc acc = clOf r loc ((n, c) :: acc) := by
  show (match loc.lookup n with | some (.cell c) => clOf r loc ((n, c) :: acc) | _ => none) = _
  rw [h]

inductive BrK (τ : Store) (word : Str) (n : Nat) (L : Addr) (loc' : Loc) (σ' : Store) : Prop
  | mk (e : σ' = τ) (l1 : loc'.lookup ("word" : Str) = some (.val (.str word))) (l2 : loc'.lookup ("many" : Str) = some (.val (.int (n : Nat)))) (l3 : loc'.lookup ("texts" : Str) = some (.cell (L + 1))) (l4 : loc'.lookup ("at" : Str) = some (.cell (L + 2))) (l5 : loc'.lookup ("names" : Str) = some (.cell (L + 3)))
inductive BrJ (τ : Store) (word : Str) (ts : List Str) (i1 n : Nat) (L : Addr) (us : List Str) (loc' : Loc) (σ' : Store) : Prop
  | mk (m : Nat) (e : σ' = τ) (l1 : loc'.lookup ("word" : Str) = some (.val (.str word))) (l2 : loc'.lookup ("many" : Str) = some (.val (.int m))) (l3 : loc'.lookup ("texts" : Str) = some (.cell (L + 1))) (l4 : loc'.lookup ("at" : Str) = some (.cell (L + 2))) (l5 : loc'.lookup ("names" : Str) = some (.cell (L + 3)))
    (hu : us = (if word = "br_table" then runT ts (i1 + m) else [])) (hm : m + us.length = n)
theorem c_law_branch (C : Cx G) {ts names : List Str} {i : Nat} {word : Str} {Q : V → Store → Prop} (ho : ∀ t ∈ ts, Txt0 t) (hz : ts.length ≤ 1000) (hn : names.length ≤ 1000) (hw : ts[i]? = some word) (hb : (["br", "br_if", "br_table"] : List Str).any (· == word) = true)
    (hq : Q (branchV word ts (i + 1) names) σ) : CallW G 5 (.ref 632) [.lst (ts.map V.str), .int (i + 1 : Nat), .lst (names.map V.str)] σ Q X := by
  refine (call_fnK (n := 4) (cs := fun L => [("names", L + 3), ("at", L + 2), ("texts", L + 1)]) (fnO (ps := ["texts", "at", "names"]) C rfl rfl rfl rfl (bt3 fun _ _ _ _ => .of_eq rfl)) (fun L => by rfl) (fun L x hx => ?_) (fun L => show (["names", "at", "texts"] : List Str).Nodup by decide) (fun p hp => ?_) rfl fun L hL hc => ?_).w
  · simp only [List.mem_cons, List.not_mem_nil, or_false] at hx
    rcases hx with rfl | rfl | rfl <;> rfl
  · simp only [List.mem_cons, List.not_mem_nil, or_false] at hp
    rcases hp with rfl | rfl | rfl <;> exact .inr ⟨rfl, fun L => rfl⟩
  have c1 : σ (L + 1) = none := hc ("texts", L + 1) (by simp)
  have c2 : σ (L + 2) = none := hc ("at", L + 2) (by simp)
  have c3 : σ (L + 3) = none := hc ("names", L + 3) (by simp)
  have hst : stC σ L [("names", L + 3), ("at", L + 2), ("texts", L + 1)] ((["texts", "at", "names"] : List Str).zip [.lst (ts.map V.str), .int (i + 1 : Nat), .lst (names.map V.str)]) = upd (upd (upd (upd σ L .mark) (L + 1) (.cell (.lst (ts.map V.str)))) (L + 2) (.cell (.int (i + 1 : Nat)))) (L + 3) (.cell (.lst (names.map V.str))) := rfl
  rw [hst]
  have hne : L + 1 ≠ L ∧ L + 2 ≠ L ∧ L + 3 ≠ L ∧ L + 1 ≠ L + 2 ∧ L + 1 ≠ L + 3 ∧ L + 2 ≠ L + 3 := by refine ⟨?_, ?_, ?_, ?_, ?_, ?_⟩ <;> (intro q; have : (_ : Nat) = _ := q; lia)
  have back : ∀ {τ : Store}, (∀ b, b ≠ L → b ≠ L + 1 → b ≠ L + 2 → b ≠ L + 3 → τ b = σ b) → erasC τ L [("names", L + 3), ("at", L + 2), ("texts", L + 1)] = σ := fun h => by
    funext b
    unfold erasC
    by_cases hb : b = L ∨ b ∈ ([("names", L + 3), ("at", L + 2), ("texts", L + 1)] : List (Str × Addr)).map (·.2)
    · rw [if_pos hb]
      simp only [List.map_cons, List.map_nil, List.mem_cons, List.not_mem_nil, or_false] at hb
      rcases hb with rfl | rfl | rfl | rfl
      · exact hL.symm
      · exact c3.symm
      · exact c2.symm
      · exact c1.symm
    · rw [if_neg hb]
      simp only [List.map_cons, List.map_nil, List.mem_cons, List.not_mem_nil, or_false, not_or] at hb
      exact h b hb.1 hb.2.2.2 hb.2.2.1 hb.2.1
  have hτ : ∀ b, b ≠ L → b ≠ L + 1 → b ≠ L + 2 → b ≠ L + 3 → upd (upd (upd (upd σ L .mark) (L + 1) (.cell (.lst (ts.map V.str)))) (L + 2) (.cell (.int (i + 1 : Nat)))) (L + 3) (.cell (.lst (names.map V.str))) b = σ b := fun b h0 h1 h2 h3 => by
    rw [upd_ne _ _ h3, upd_ne _ _ h2, upd_ne _ _ h1, upd_ne _ _ h0]
  have t3 : upd (upd (upd (upd σ L .mark) (L + 1) (.cell (.lst (ts.map V.str)))) (L + 2) (.cell (.int (i + 1 : Nat)))) (L + 3) (.cell (.lst (names.map V.str))) (L + 3) = some (.cell (.lst (names.map V.str))) := upd_eq ..
  have t2 : upd (upd (upd (upd σ L .mark) (L + 1) (.cell (.lst (ts.map V.str)))) (L + 2) (.cell (.int (i + 1 : Nat)))) (L + 3) (.cell (.lst (names.map V.str))) (L + 2) = some (.cell (.int (i + 1 : Nat))) := (upd_ne _ _ hne.2.2.2.2.2).trans (upd_eq ..)
  have t1 : upd (upd (upd (upd σ L .mark) (L + 1) (.cell (.lst (ts.map V.str)))) (L + 2) (.cell (.int (i + 1 : Nat)))) (L + 3) (.cell (.lst (names.map V.str))) (L + 1) = some (.cell (.lst (ts.map V.str))) := (upd_ne _ _ hne.2.2.2.2.1).trans ((upd_ne _ _ hne.2.2.2.1).trans (upd_eq ..))
  generalize upd (upd (upd (upd σ L .mark) (L + 1) (.cell (.lst (ts.map V.str)))) (L + 2) (.cell (.int (i + 1 : Nat)))) (L + 3) (.cell (.lst (names.map V.str))) = τ at hτ t1 t2 t3 ⊢
  have fin : ∀ v, v = branchV word ts (i + 1) names → Q v (erasC τ L [("names", L + 3), ("at", L + 2), ("texts", L + 1)]) := fun v e => by rw [back hτ, e]; exact hq
  unfold branchV at fin
  refine ex_cons <| ex_assign (by rfl) <| ev_sub <| ev_cell rfl t1 <| ev_bin <| ev_cell rfl t2 <| ev_int ⟨_, .sub _ _, ?_⟩
  rw [show ((i + 1 : Nat) : Int) - 1 = (i : Int) by lia]
  refine item_str (by first | decide | (refine Nat.le_trans (by assumption) ?_; exact Nat.le_of_ble_eq_true rfl) | lia) hw ?_
  refine ex_cons <| ex_if <| ts_or <| ts_cmp <| ev_cell rfl t2 <| bcall (b_len C) rfl (keep_builtin _) rfl rfl <| evs_cons <| ev_cell rfl t1 <| evs_nil <| bi_len lenV_strs (by first | decide | (refine Nat.le_trans (by assumption) ?_; exact Nat.le_of_ble_eq_true rfl) | lia) ⟨_, cmp_int _ _, ?_⟩
  cases h1 : ts[i + 1]? with
  | none =>
    have hlen : i + 1 = ts.length := by
      have a := (List.getElem?_eq_some_iff.mp hw).1
      have b := List.getElem?_eq_none_iff.mp h1
      lia
    rw [h1] at fin
    refine iteT (by simp; lia) <| iteT rfl ?_
    refine ex_cons <| ex_return <| ev_ifexp <| ts_cmp <| ev_cell rfl t2 <| bcall (b_len C) rfl (keep_builtin _) rfl rfl <| evs_cons <| ev_cell rfl t1 <| evs_nil <| bi_len lenV_strs (by first | decide | (refine Nat.le_trans (by assumption) ?_; exact Nat.le_of_ble_eq_true rfl) | lia) ⟨decide (((i + 1 : Nat) : Int) < (ts.length : Int)), rfl, iteF (by simp; lia) ?_⟩
    exact ev_tuple <| evs_cons <| ev_strC (by kernel_rfl) <| evs_cons (ev_bin <| ev_cell rfl t2 <| ev_int ⟨_, .sub _ _, evs_nil ⟨by first | exact Nat.le_of_ble_eq_true rfl | simp, fin _ rfl⟩⟩)
  | some t =>
    have hlt := (List.getElem?_eq_some_iff.mp h1).1
    have ht := ho t (List.mem_of_getElem? h1)
    rw [h1] at fin
    dsimp only at fin
    refine iteF (by simp; lia) <| ts_or <| ts_cmp <| gcall (n := 1) (g__law_sort C) (keepF C rfl) rfl (by decide) rfl <| evs_cons (ev_sub <| ev_cell rfl t1 <| ev_cell rfl t2 <| item_str (by first | decide | (refine Nat.le_trans (by assumption) ?_; exact Nat.le_of_ble_eq_true rfl) | lia) h1 <| evs_nil <| c_sort C ht <| ev_tupS rfl (by kernel_rfl) (by decide) ⟨(["word", "reserved"] : List Str).any (· == sortT t), rfl, iteB (fun h2 => ?_) fun h2 => ?_⟩)
    · rw [if_pos h2] at fin
      refine iteT rfl ?_
      refine ex_cons <| ex_return <| ev_ifexp <| ts_cmp <| ev_cell rfl t2 <| bcall (b_len C) rfl (keep_builtin _) rfl rfl <| evs_cons <| ev_cell rfl t1 <| evs_nil <| bi_len lenV_strs (by first | decide | (refine Nat.le_trans (by assumption) ?_; exact Nat.le_of_ble_eq_true rfl) | lia) ⟨decide (((i + 1 : Nat) : Int) < (ts.length : Int)), rfl, iteT (by simp; lia) ?_⟩
      exact gcall (n := 2) (g__law_no C) (keepF C rfl) rfl (by decide) rfl <| evs_cons (ev_sub <| ev_cell rfl t1 <| ev_cell rfl t2 <| item_str (by first | decide | (refine Nat.le_trans (by assumption) ?_; exact Nat.le_of_ble_eq_true rfl) | lia) h1 <| evs_cons <| ev_cell rfl t2 <| evs_nil <| c_law_no C ht (fin _ rfl))
    rw [if_neg (by rw [h2]; decide)] at fin
    refine ts_or_nil <| iteF rfl <| ex_nil ?_
    refine ex_cons <| ex_assign (by rfl) <| ev_int ?_
    have hmany : manyOf word ts (i + 1) ≤ 1 + ts.length := by
      unfold manyOf
      split
      · rcases runT_len ts (i + 1 + 1) with h | h
        · lia
        · rw [h]; simp
      · lia
    refine ex_cut (BrK τ word (manyOf word ts (i + 1)) L) ?_ ?_
    · refine ex_while _ (whl_ind2 (BrJ τ word ts (i + 1) (manyOf word ts (i + 1)) L)
        (BrK τ word (manyOf word ts (i + 1)) L)
        (fun _ _ h => h) ?_ _ _ _ ⟨1, rfl, rfl, rfl, rfl, rfl, rfl, rfl, by unfold manyOf; split <;> simp⟩)
      rintro us loc' σ' ⟨m, rfl, l1, l2, l3, l4, l5, hus, hm⟩
      have stop : us = [] → BrK σ' word (manyOf word ts (i + 1)) L loc' σ' := fun h => by
        rw [h, List.length_nil, Nat.add_zero] at hm
        exact ⟨rfl, l1, by rw [← hm]; exact l2, l3, l4, l5⟩
      refine ts_and <| ts_cmp <| ev_local l1 <| ev_strC (by kernel_rfl) ⟨_, cmp_str _ _, ?_⟩
      by_cases hbt : word = "br_table"
      · rw [if_pos hbt] at hus
        refine iteT (by first | exact decide_eq_true (by assumption) | exact decide_eq_false (by assumption) | exact ndF (by assumption) | exact ndT (by assumption)) <| ts_and <| ts_cmp <| ev_bin <| ev_cell l4 t2 <| ev_local l2 ⟨_, .add _ _, bcall (b_len C) rfl (keep_builtin _) rfl rfl <| evs_cons <| ev_cell l3 t1 <| evs_nil <| bi_len lenV_strs (by first | decide | (refine Nat.le_trans (by assumption) ?_; exact Nat.le_of_ble_eq_true rfl) | lia) ⟨decide (((i + 1 : Nat) : Int) + (m : Int) < (ts.length : Int)), rfl, ?_⟩⟩
        cases hm1 : ts[i + 1 + m]? with
        | none =>
          refine iteF (by have := List.getElem?_eq_none_iff.mp hm1; simp; lia) <| iteF rfl (stop ?_)
          rw [hus]; exact runT_stop fun t ht => by rw [hm1] at ht; cases ht
        | some t' =>
          have hlt' := (List.getElem?_eq_some_iff.mp hm1).1
          refine iteT (by simp; lia) <| ts_and <| ts_cmp <| gcall (n := 1) (g__law_sort C) (keepF C rfl) rfl (by decide) rfl <| evs_cons (ev_sub <| ev_cell l3 t1 <| ev_bin <| ev_cell l4 t2 <| ev_local l2 ⟨_, .add _ _, ?_⟩)
          rw [show ((i + 1 : Nat) : Int) + (m : Int) = ((i + 1 + m : Nat) : Int) by lia]
          refine item_str (by first | decide | (refine Nat.le_trans (by assumption) ?_; exact Nat.le_of_ble_eq_true rfl) | lia) hm1 <| evs_nil <| c_sort C (ho t' (List.mem_of_getElem? hm1)) <| ev_tupS rfl (by kernel_rfl) (by decide) ⟨hiB (sortT t'), rfl, iteB (fun h4 => ?_) fun h4 => ?_⟩
          · refine ts_and_nil <| iteT rfl ⟨t', runT ts (i + 1 + m + 1), by rw [hus]; exact runT_cons hm1 h4, ?_⟩
            rw [hus, runT_cons hm1 h4] at hm
            refine ex_cons <| ex_assign (by rfl) <| ev_bin <| ev_local l2 <| ev_int ⟨_, .add _ _, ex_nil ⟨m + 1, rfl, l1, rfl, l3, l4, l5, by rw [if_pos hbt]; rfl, ?_⟩⟩
            rw [List.length_cons] at hm; lia
          · refine iteF rfl (stop ?_)
            rw [hus]; exact runT_stop fun t ht => by rw [hm1] at ht; cases ht; exact h4
      · rw [if_neg hbt] at hus
        exact iteF (by first | exact decide_eq_true (by assumption) | exact decide_eq_false (by assumption) | exact ndF (by assumption) | exact ndT (by assumption)) <| iteF rfl (stop hus)
    rintro loc' σ' ⟨rfl, l1, l2, l3, l4, l5⟩
    have hin : ∀ k, k < manyOf word ts (i + 1) → i + 1 + k < ts.length := fun k hk => by
      unfold manyOf at hk
      split at hk
      · rcases runT_len ts (i + 1 + 1) with h | h
        · lia
        · rw [h, List.length_nil] at hk; lia
      · lia
    refine ex_cons <| ex_assign_comp (cl := [("texts", L + 1), ("names", L + 3), ("at", L + 2)]) rfl rfl rfl ((clOf_skip rfl).trans <| (clOf_skip rfl).trans <| (clOf_skip rfl).trans <| (clOf_free l4).trans <| (clOf_free l5).trans <| (clOf_free l3).trans rfl) rfl ?_
    refine iter_ev <| bcall (b_range C) rfl (keep_type _) rfl rfl <| evs_cons <| ev_local l2 <| evs_nil <| bi_range ⟨_, .rng _ (by first | decide | (refine Nat.le_trans (by assumption) ?_; exact Nat.le_of_ble_eq_true rfl) | lia), rangeV (manyOf word ts (i + 1)), (goalsE names ts (i + 1) (manyOf word ts (i + 1))).map labV, fun _ _ _ => rfl, by unfold rangeV; rw [List.length_map, List.length_range]; lia, ?_, .inl ?_⟩
    · unfold goalsE; rw [List.map_map]
      refine compL_all (fun k : Nat => V.int k) _ fun k hk => ⟨_, rfl, fun σ2 hE => ?_⟩
      have hk' := hin k (by simpa using hk)
      obtain ⟨tk, htk⟩ : ∃ tk, ts[i + 1 + k]? = some tk := ⟨_, List.getElem?_eq_getElem hk'⟩
      refine gcall (n := 3) (g__law_label C) (keepF C rfl) rfl (by decide) rfl <| evs_cons (ev_sub <| ev_cell rfl (hE.cell t1) <| ev_bin <| ev_cell rfl (hE.cell t2) <| ev_local rfl ⟨_, .add _ _, ?_⟩)
      rw [show ((i + 1 : Nat) : Int) + (k : Int) = ((i + 1 + k : Nat) : Int) by lia]
      refine item_str (by first | decide | (refine Nat.le_trans (by assumption) ?_; exact Nat.le_of_ble_eq_true rfl) | lia) htk <| evs_cons (ev_bin <| ev_cell rfl (hE.cell t2) <| ev_local rfl ⟨_, .add _ _, evs_cons <| ev_cell rfl (hE.cell t3) <| evs_nil ?_⟩)
      rw [show ((i + 1 : Nat) : Int) + (k : Int) = ((i + 1 + k : Nat) : Int) by lia]
      refine c_law_label C (ho tk (List.mem_of_getElem? htk)) hn ⟨?_, rfl⟩
      show labV _ = labV (lawLabel names (ts.getD (i + 1 + k) "") (i + 1 + k))
      rw [List.getD_eq_getElem?_getD, htk]; rfl
    refine ex_cons <| ex_assign_comp (cl := []) rfl rfl rfl ?_ rfl ?_
    · exact (clOf_skip rfl).trans <| (clOf_skip rfl).trans <| (clOf_skip rfl).trans <| (clOf_skip rfl).trans rfl
    have hglen : (goalsE names ts (i + 1) (manyOf word ts (i + 1))).length ≤ 1 + ts.length := by unfold goalsE; rw [List.length_map, List.length_range]; lia
    refine iter_ev <| ev_local rfl ⟨_, .lst _, (goalsE names ts (i + 1) (manyOf word ts (i + 1))).map labV, ((goalsE names ts (i + 1) (manyOf word ts (i + 1))).filter isE).map labV, fun _ _ _ => rfl, by rw [List.length_map]; lia, ?_, .inl ?_⟩
    · refine compL_filter labV labV isE fun g _ => ⟨_, rfl, fun σ2 hE => ?_, fun _ σ2 hE => ev_local rfl ⟨rfl, rfl⟩⟩
      refine ts_plain <| bcall (b_isinstance C) rfl (keep_builtin _) rfl rfl <| evs_cons <| ev_local rfl <| evs_cons (ev_builtin (b_tuple C) rfl <| evs_nil <| bi_isi_ty (b := isE g) ?_ ⟨_, rfl, rfl, rfl⟩)
      cases g <;> rfl
    refine ex_cons <| ex_if <| ts_ne_nil <| ev_local rfl <| ev_list <| evs_nil ⟨by first | exact Nat.le_of_ble_eq_true rfl | simp, .inl ⟨_, rfl, rfl, ?_⟩⟩
    cases hgs : (goalsE names ts (i + 1) (manyOf word ts (i + 1))).filter isE with
    | cons g gs =>
      rw [hgs] at fin
      have hgl : (g :: gs).length ≤ 1 + ts.length := by rw [← hgs]; exact Nat.le_trans (List.length_filter_le ..) hglen
      refine iteT rfl <| ex_cons <| ex_return <| ev_sub <| ev_local rfl <| ev_int ⟨labV g, .lst _ ((g :: gs).map labV) 0 _ rfl (by first | decide | (refine Nat.le_trans (by assumption) ?_; exact Nat.le_of_ble_eq_true rfl) | lia) (ixAt_nat (i := 0) rfl), fin _ rfl⟩
    | nil =>
      rw [hgs] at fin
      refine iteF rfl <| ex_nil ?_
      refine ex_cons <| ex_return <| ev_tuple <| evs_cons (ev_method rfl <| ev_list <| evs_strs (ss := ["br", "br_if", "br_table"]) rfl (by kernel_rfl) ⟨by first | exact Nat.le_of_ble_eq_true rfl | simp, .inl ⟨.builtin "list.index", _, 0, .blt "list" "list.index" rfl F.plainAttrs_list F.slot_list_index (by kernel_rfl), keep_builtin _, Nat.zero_le _, evs_cons <| ev_local l1 <| evs_nil ?_⟩⟩)
      obtain ⟨j, hj⟩ := idxS_some hb
      refine m_index (ss := ["br", "br_if", "br_table"]) rfl rfl (by decide) hj <| evs_cons <| ev_local rfl <| evs_nil ⟨by first | exact Nat.le_of_ble_eq_true rfl | simp, fin _ ?_⟩
      unfold brIx; rw [hj]; rfl
end
end Mine
end

section
namespace Mine
structure Ob where
  name : Str
  word : Str
  place : Nat
  els : Bool
noncomputable def obW (p : Ob) : Str := if p.els = true then "else" else p.word
noncomputable def lawVs (p : Ob) : List V := [.str p.name, .str (obW p), .int (p.place : Nat)]
noncomputable def dol (t : Str) : Bool := match t.cps.toList[(0 : Nat)]? with
  | some c => decide ((⟨#[c]⟩ : Str) = "$")
  | none => false
noncomputable def nameAt (ts : List Str) (i : Nat) : Str := match ts[i]? with
  | some t => if dol t = true then t else ""
  | none => ""
noncomputable def nl (t : Str) : Nat := (Txt.slice t none (some 1)).length
noncomputable def blIx (t : Str) : Int := (((idxS ["block", "loop", "if"] t).getD 0 : Nat) : Int)
noncomputable def plainKs : List Str := ["nop", "select", "unreachable", "i32.add", "drop"]
noncomputable def plainIs : List Int := [1, 27, 0, 106, 26]
noncomputable def dueB : V → Except (Str × Int) (Int × List V)
  | .tup [.int k, .lst ns] => .ok (k, ns)
  | .tup [.str w, .int p] => .error (w, p)
  | _ => .error ("", 0)
noncomputable def restD (t : Str) (i : Nat) (O : List Ob) : Option V → Except (Str × Int) (Nat × V × List Ob)
  | some c => .ok (i + 1, .tup [c], O)
  | none => if t = "f64.add" then .error (t, 0 - ((i : Int) + 1)) else if t = "i32.nand" then .error ("unknown operator", i) else .error (refP t, i)
/-- a step of the law's own reading -/
noncomputable def dueStep (ts : List Str) (i : Nat) (t : Str) (O : List Ob) : Except (Str × Int) (Nat × V × List Ob) :=
  if (["block", "loop", "if"] : List Str).any (· == t) = true then .ok (i + 1 + nl (nameAt ts (i + 1)), .tup [.int (2 + blIx t), .int (-64)], O ++ [⟨nameAt ts (i + 1), t, i, false⟩])
  else if (["end", "else"] : List Str).any (· == t) = true then (match O.getLast? with
    | none => .error ("unexpected token", i)
    | some ob => if (["", ob.name] : List Str).any (· == nameAt ts (i + 1)) = false then .error ("mismatching label", (i : Int) + 1)
      else if t = "else" ∧ obW ob ≠ "if" then .error ("unexpected token", i)
      else .ok (i + 1 + nl (nameAt ts (i + 1)), .tup [.int (if t = "end" then 11 else 5)], if t = "end" then O.dropLast else O.dropLast ++ [{ ob with els := true }]))
  else if (["br", "br_if", "br_table"] : List Str).any (· == t) = true then (match dueB (branchV t ts (i + 1) (O.map (·.name))) with
    | .ok (k, ns) => .ok (i + 1 + ns.length, .tup (.int (12 + k) :: ns), O)
    | .error w => .error w)
  else restD t i O (getF plainKs (plainIs.map V.int) t)
noncomputable def dueAll (ts : List Str) : Nat → Nat → List V → List Ob → Option (Except (Str × Int) (List V))
  | 0, _, _, _ => none
  | k + 1, i, B, O => if 1000 < O.length ∨ 1000 < B.length then none else match ts[i]? with
    | none => (match O.getLast? with
      | none => some (.ok B)
      | some ob => some (.error ("unexpected token", (ob.place : Nat))))
    | some t => match dueStep ts i t O with
      | .error w => some (.error w)
      | .ok (j, iv, O') => dueAll ts k j (B ++ [iv]) O'
theorem dueAll_s {ts : List Str} {k i : Nat} {B : List V} {O : List Ob} : dueAll ts (k + 1) i B O = if 1000 < O.length ∨ 1000 < B.length then none else match ts[i]? with
    | none => (match O.getLast? with
      | none => some (.ok B)
      | some ob => some (.error ("unexpected token", (ob.place : Nat))))
    | some t => match dueStep ts i t O with
      | .error w => some (.error w)
      | .ok (j, iv, O') => dueAll ts k j (B ++ [iv]) O' := rfl
noncomputable def dueV : Except (Str × Int) (List V) → V
  | .ok B => .tup [.lst (B ++ [.tup [.int 11]]), .none]
  | .error w => .tup [.none, wrongV w]
noncomputable def endD (ts : List Str) (i : Nat) (t : Str) (O0 : List Ob) (ob : Ob) : Except (Str × Int) (Nat × V × List Ob) :=
  if (["", ob.name] : List Str).any (· == nameAt ts (i + 1)) = false then .error ("mismatching label", (i : Int) + 1)
  else if t = "else" ∧ obW ob ≠ "if" then .error ("unexpected token", i)
  else .ok (i + 1 + nl (nameAt ts (i + 1)), .tup [.int (if t = "end" then 11 else 5)], if t = "end" then O0 else O0 ++ [{ ob with els := true }])
section
variable {ts : List Str} {i : Nat} {t : Str} {O : List Ob}
theorem dueStep_blk (h : (["block", "loop", "if"] : List Str).any (· == t) = true) : dueStep ts i t O = .ok (i + 1 + nl (nameAt ts (i + 1)), .tup [.int (2 + blIx t), .int (-64)], O ++ [⟨nameAt ts (i + 1), t, i, false⟩]) := if_pos h
theorem dueStep_end0 (h1 : (["block", "loop", "if"] : List Str).any (· == t) = false) (h2 : (["end", "else"] : List Str).any (· == t) = true) : dueStep ts i t [] = .error ("unexpected token", i) := (if_neg (nb h1)).trans (if_pos h2)
theorem dueStep_end1 (h1 : (["block", "loop", "if"] : List Str).any (· == t) = false) (h2 : (["end", "else"] : List Str).any (· == t) = true) {O0 : List Ob} {ob : Ob} : dueStep ts i t (O0 ++ [ob]) = endD ts i t O0 ob := by
  refine ((if_neg (nb h1)).trans (if_pos h2)).trans ?_
  rw [List.getLast?_append, List.getLast?_singleton, List.dropLast_concat]; rfl
theorem endD_mis {O0 : List Ob} {ob : Ob} (h : (["", ob.name] : List Str).any (· == nameAt ts (i + 1)) = false) : endD ts i t O0 ob = .error ("mismatching label", (i : Int) + 1) := if_pos h
theorem endD_bad {O0 : List Ob} {ob : Ob} (h : (["", ob.name] : List Str).any (· == nameAt ts (i + 1)) = true) (h2 : t = "else" ∧ obW ob ≠ "if") : endD ts i t O0 ob = .error ("unexpected token", i) := (if_neg (by rw [h]; decide)).trans (if_pos h2)
theorem endD_ok {O0 : List Ob} {ob : Ob} (h : (["", ob.name] : List Str).any (· == nameAt ts (i + 1)) = true) (h2 : ¬ (t = "else" ∧ obW ob ≠ "if")) : endD ts i t O0 ob = .ok (i + 1 + nl (nameAt ts (i + 1)), .tup [.int (if t = "end" then 11 else 5)], if t = "end" then O0 else O0 ++ [{ ob with els := true }]) := (if_neg (by rw [h]; decide)).trans (if_neg h2)
section
variable (h1 : (["block", "loop", "if"] : List Str).any (· == t) = false) (h2 : (["end", "else"] : List Str).any (· == t) = false)
include h1 h2
theorem dueStep_brE (h3 : (["br", "br_if", "br_table"] : List Str).any (· == t) = true) {w : Str × Int} (hw : branchV t ts (i + 1) (O.map (·.name)) = wrongV w) : dueStep ts i t O = .error w := by
  refine ((if_neg (nb h1)).trans ((if_neg (nb h2)).trans (if_pos h3))).trans ?_
  rw [hw]; rfl
theorem dueStep_brO (h3 : (["br", "br_if", "br_table"] : List Str).any (· == t) = true) {k : Int} {ns : List V} (hw : branchV t ts (i + 1) (O.map (·.name)) = .tup [.int k, .lst ns]) : dueStep ts i t O = .ok (i + 1 + ns.length, .tup (.int (12 + k) :: ns), O) := by
  refine ((if_neg (nb h1)).trans ((if_neg (nb h2)).trans (if_pos h3))).trans ?_
  rw [hw]; rfl
theorem dueStep_rest (h3 : (["br", "br_if", "br_table"] : List Str).any (· == t) = false) {r : Option V} (hr : getF plainKs (plainIs.map V.int) t = r) : dueStep ts i t O = restD t i O r := by
  subst hr
  exact (if_neg (nb h1)).trans ((if_neg (nb h2)).trans (if_neg (nb h3)))
end
variable {k : Nat} {B : List V} {res : Except (Str × Int) (List V)} (h : dueAll ts (k + 1) i B O = some res)
include h
theorem dueAll_g : ¬ (1000 < O.length ∨ 1000 < B.length) := fun q => by
  rw [show dueAll ts (k + 1) i B O = none from if_pos q] at h; cases h
theorem dueAll_out (hi : ts[i]? = none) : res = (match O.getLast? with | none => .ok B | some ob => .error ("unexpected token", (ob.place : Nat))) := by
  rw [dueAll_s, if_neg (dueAll_g h), hi] at h
  dsimp only at h
  split at h <;> cases h <;> rfl
theorem dueAll_ok (hi : ts[i]? = some t) {j : Nat} {iv : V} {O' : List Ob} (e : dueStep ts i t O = .ok (j, iv, O')) : dueAll ts k j (B ++ [iv]) O' = some res := by
  have g := dueAll_g h
  rw [dueAll_s, if_neg g, hi] at h
  dsimp only at h
  rw [e] at h; exact h
theorem dueAll_er (hi : ts[i]? = some t) {w : Str × Int} (e : dueStep ts i t O = .error w) : res = .error w := by
  have g := dueAll_g h
  rw [dueAll_s, if_neg g, hi] at h
  dsimp only at h
  rw [e] at h; cases h; rfl
end
theorem branchV_or {word : Str} {ts : List Str} {i1 : Nat} {names : List Str} : (∃ w, branchV word ts i1 names = wrongV w) ∨ ∃ k ns, branchV word ts i1 names = .tup [.int k, .lst ns] ∧ ns.length ≤ 1 + ts.length := by
  unfold branchV
  split
  · exact .inl ⟨_, rfl⟩
  · split
    · exact .inl ⟨_, rfl⟩
    · split
      · rename_i g gs h
        have hg : isE g = true := (List.mem_filter.mp (h ▸ List.mem_cons_self .. : g ∈ (goalsE names ts i1 (manyOf word ts i1)).filter isE)).2
        cases g with
        | ok n => cases hg
        | error w => exact .inl ⟨w, rfl⟩
      · refine .inr ⟨_, _, rfl, ?_⟩
        unfold goalsE
        rw [List.length_map, List.length_map, List.length_range]
        unfold manyOf
        split
        · rcases runT_len ts (i1 + 1) with h | h
          · lia
          · rw [h]; simp
        · lia
/-- the law's reading under way -/
structure DS (σ : Store) (b o : Addr) (B : List V) (es : List (Addr × Ob)) : Prop where
  bb : σ b = some (.lst B)
  oo : σ o = some (.lst (es.map fun p => V.ref p.1))
  ne : b ≠ o
  en : ∀ p ∈ es, σ p.1 = some (.lst (lawVs p.2)) ∧ p.1 ≠ b ∧ p.1 ≠ o
  nd : (es.map (·.1)).Nodup
theorem DS.setB {σ : Store} {b o : Addr} {B : List V} {es : List (Addr × Ob)} (S : DS σ b o B es) (B' : List V) : DS (upd σ b (.lst B')) b o B' es :=
  ⟨upd_eq .., (upd_ne _ _ S.ne.symm).trans S.oo, S.ne, fun p hp => ⟨(upd_ne _ _ (S.en p hp).2.1).trans (S.en p hp).1, (S.en p hp).2⟩, S.nd⟩
theorem DS.push {σ : Store} {b o : Addr} {B : List V} {es : List (Addr × Ob)} (S : DS σ b o B es) {e : Addr} (he : σ e = none) (ob : Ob) : DS (upd (upd σ e (.lst (lawVs ob))) o (.lst (es.map (fun p => V.ref p.1) ++ [.ref e]))) b o B (es ++ [(e, ob)]) := by
  have h1 : ∀ {a m}, σ a = some m → a ≠ o → upd (upd σ e (.lst (lawVs ob))) o (.lst (es.map (fun p => V.ref p.1) ++ [.ref e])) a = some m := fun h hn => by rw [upd_ne _ _ hn]; exact upd_out h he
  have heo : e ≠ o := (ne_of S.oo he).symm
  refine ⟨h1 S.bb S.ne, ?_, S.ne, fun p hp => ?_, ?_⟩
  · rw [upd_eq]; simp
  · rcases List.mem_append.mp hp with h | h
    · exact ⟨h1 (S.en p h).1 (S.en p h).2.2, (S.en p h).2⟩
    · simp at h; subst h
      exact ⟨(upd_ne _ _ heo).trans (upd_eq ..), (ne_of S.bb he).symm, heo⟩
  · rw [List.map_append, List.nodup_append]
    refine ⟨S.nd, by simp, fun a ha b hb => ?_⟩
    simp at hb; subst hb
    rintro rfl
    obtain ⟨p, hp, hpe⟩ := List.mem_map.mp ha
    have := (S.en p hp).1
    rw [hpe, he] at this; cases this
theorem DS.pop {σ : Store} {b o : Addr} {B : List V} {es : List (Addr × Ob)} {p : Addr × Ob} (S : DS σ b o B (es ++ [p])) : DS (upd σ o (.lst (es.map fun p => V.ref p.1))) b o B es := by
  have nd := S.nd
  rw [List.map_append, List.nodup_append] at nd
  exact ⟨(upd_ne _ _ S.ne).trans S.bb, upd_eq .., S.ne, fun q hq => ⟨(upd_ne _ _ (S.en q (List.mem_append_left _ hq)).2.2).trans (S.en q (List.mem_append_left _ hq)).1, (S.en q (List.mem_append_left _ hq)).2⟩, nd.1⟩
theorem DS.setE {σ : Store} {b o : Addr} {B : List V} {es : List (Addr × Ob)} {e : Addr} {ob : Ob} (S : DS σ b o B (es ++ [(e, ob)])) (ob' : Ob) : DS (upd σ e (.lst (lawVs ob'))) b o B (es ++ [(e, ob')]) := by
  have nd := S.nd
  rw [List.map_append, List.nodup_append] at nd
  have he := S.en (e, ob) (by simp)
  refine ⟨(upd_ne _ _ he.2.1.symm).trans S.bb, ?_, S.ne, fun q hq => ?_, ?_⟩
  · have := (upd_ne (σ := σ) (a := e) (b := o) (.lst (lawVs ob')) he.2.2.symm).trans S.oo
    rw [this]; simp
  · rcases List.mem_append.mp hq with h | h
    · have h1 := S.en q (List.mem_append_left _ h)
      exact ⟨(upd_ne _ _ (nd.2.2 q.1 (List.mem_map.mpr ⟨q, h, rfl⟩) e (by simp))).trans h1.1, h1.2⟩
    · simp at h; subst h
      exact ⟨upd_eq .., he.2⟩
  · have := S.nd
    simpa using this
/-- marks stand, and there is no new cell -/
structure Mkc (σ σ' : Store) : Prop where
  ms : Mks σ σ'
  nc : ∀ a v, σ' a = some (.cell v) → σ a = some (.cell v)
theorem Mkc.refl (σ : Store) : Mkc σ σ := ⟨fun _ h => h, fun _ _ h => h⟩
theorem Mkc.trans {σ σ1 σ2 : Store} (x : Mkc σ σ1) (y : Mkc σ1 σ2) : Mkc σ σ2 := ⟨x.ms.trans y.ms, fun a v h => x.nc a v (y.nc a v h)⟩
theorem Mkc.leave {σ σ' : Store} {L : Addr} (hL : σ L = none) (h : Mkc (upd σ L .mark) σ') : Mkc σ (era σ' L) := ⟨h.ms.leave hL, fun a v e => by
  have ha : a ≠ L := by rintro rfl; rw [era_eq] at e; cases e
  rw [era_ne _ ha] at e
  have := h.nc a v e
  rw [upd_ne _ _ ha] at this; exact this⟩
theorem Mkc.new {σ : Store} {a : Addr} {m : MObj} (h : σ a = none) (hm : ∀ v, m ≠ .cell v := by nofun) : Mkc σ (upd σ a m) := ⟨.new h, fun b v e => by
  by_cases hb : b = a
  · subst hb; rw [upd_eq] at e; cases e; exact absurd rfl (hm v)
  · rw [upd_ne _ _ hb] at e; exact e⟩
theorem Mkc.put {σ : Store} {a : Addr} {m m' : MObj} (h : σ a = some m) (hm : m ≠ .mark) (hc : ∀ v, m' ≠ .cell v := by nofun) : Mkc σ (upd σ a m') := ⟨fun b e => by rw [upd_ne _ _ (by rintro rfl; rw [h] at e; cases e; exact hm rfl)]; exact e, fun b v e => by
  by_cases hb : b = a
  · subst hb; rw [upd_eq] at e; cases e; exact absurd rfl (hc v)
  · rw [upd_ne _ _ hb] at e; exact e⟩
noncomputable def obsOf (es : List (Addr × Ob)) : List Ob := es.map (·.2)
section
variable {G : Gd} {md : Md} {loc : Loc} {σ : Store} {X : Exn → Prop}

inductive DueK (ts : List Str) (res : Except (Str × Int) (List V)) (σ0 : Store) (loc' : Loc) (σ' : Store) : Prop
  | mk (b o : Addr) (B : List V) (es : List (Addr × Ob)) (l1 : loc'.lookup ("body" : Str) = some (.val (.ref b))) (l2 : loc'.lookup ("opened" : Str) = some (.val (.ref o))) (D : DS σ' b o B es) (hB : B.length ≤ 1000) (he : es.length ≤ 1000) (M : Mkc σ0 σ')
    (hr : res = (match (obsOf es).getLast? with | none => .ok B | some ob => .error ("unexpected token", (ob.place : Nat))))
inductive DueJ (ts : List Str) (res : Except (Str × Int) (List V)) (b o : Addr) (σ0 : Store) (us : List Unit) (loc' : Loc) (σ' : Store) : Prop
  | mk (i : Nat) (B : List V) (es : List (Addr × Ob)) (l1 : loc'.lookup ("texts" : Str) = some (.val (.lst (ts.map V.str)))) (l2 : loc'.lookup ("body" : Str) = some (.val (.ref b))) (l3 : loc'.lookup ("opened" : Str) = some (.val (.ref o))) (l4 : loc'.lookup ("at" : Str) = some (.val (.int i))) (l5 : loc'.lookup ("plain" : Str) = some (.val (.sdc plainKs (plainIs.map V.int))))
    (D : DS σ' b o B es) (M : Mkc σ0 σ') (hd : dueAll ts us.length i B (obsOf es) = some res)
inductive DueC (ts : List Str) (b o : Addr) (i1 : Nat) (nm : Str) (B : List V) (obs : List Ob) (σ0 : Store) (loc3 : Loc) (σ3 : Store) : Prop
  | mk (es' : List (Addr × Ob)) (l1 : loc3.lookup ("texts" : Str) = some (.val (.lst (ts.map V.str)))) (l2 : loc3.lookup ("body" : Str) = some (.val (.ref b))) (l3 : loc3.lookup ("opened" : Str) = some (.val (.ref o))) (l4 : loc3.lookup ("at" : Str) = some (.val (.int (i1 : Nat)))) (l5 : loc3.lookup ("plain" : Str) = some (.val (.sdc plainKs (plainIs.map V.int))))
    (l7 : loc3.lookup ("name" : Str) = some (.val (.str nm))) (D : DS σ3 b o B es') (M : Mkc σ0 σ3) (ho : obsOf es' = obs)
inductive DueC2 (ts : List Str) (b o : Addr) (i1 : Nat) (t nm : Str) (bad : Prop) (σ' : Store) (loc2 : Loc) (σ2 : Store) : Prop
  | mk (e : σ2 = σ') (l1 : loc2.lookup ("texts" : Str) = some (.val (.lst (ts.map V.str)))) (l2 : loc2.lookup ("body" : Str) = some (.val (.ref b))) (l3 : loc2.lookup ("opened" : Str) = some (.val (.ref o))) (l4 : loc2.lookup ("at" : Str) = some (.val (.int (i1 : Nat)))) (l5 : loc2.lookup ("plain" : Str) = some (.val (.sdc plainKs (plainIs.map V.int))))
    (l6 : loc2.lookup ("text" : Str) = some (.val (.str t))) (l7 : loc2.lookup ("name" : Str) = some (.val (.str nm))) (h : ¬ bad)
set_option maxHeartbeats 4000000 in
theorem c_law_due (C : Cx G) {ts : List Str} {k : Nat} {res : Except (Str × Int) (List V)} {Q : V → Store → Prop} (ho : ∀ t ∈ ts, Txt0 t) (hz : ts.length ≤ 1000) (hr : dueAll ts k 0 [] [] = some res)
    (hq : ∀ σ', Mkc σ σ' → Q (dueV res) σ') : CallW G 6 (.ref 637) [.lst (ts.map V.str)] σ Q X := by
  refine call_fn (n := 5) (fnO (ps := ["texts"]) C rfl rfl rfl rfl (bt1 fun _ _ => .of_eq rfl)) (by decide) (by decide) rfl fun L hL => ?_
  have fin : ∀ {v σ'}, Mkc (upd σ L .mark) σ' → v = dueV res → Q v (era σ' L) := fun M e => by rw [e]; exact hq _ (M.leave hL)
  refine ex_cons <| ex_assign_tup (ns := ["body", "opened", "at"]) (o := some ["body", "opened", "at"]) rfl rfl (by decide) (by rfl) (.inr rfl) ?_
  refine ev_tuple <| evs_cons <| ev_list <| evs_nil ⟨by first | exact Nat.le_of_ble_eq_true rfl | simp, .inr fun b hb => evs_cons <| ev_list <| evs_nil ⟨by first | exact Nat.le_of_ble_eq_true rfl | simp, .inr fun o ho' => evs_cons <| ev_int <| evs_nil ⟨by first | exact Nat.le_of_ble_eq_true rfl | simp, _, rfl, rfl, ?_⟩⟩⟩
  rw [if_neg (by simp)]
  have D0 : DS (upd (upd (upd σ L .mark) b (.lst [])) o (.lst [])) b o [] [] := ⟨upd_out (upd_eq ..) ho', upd_eq .., (ne_of (upd_eq ..) ho'), by simp, by simp⟩
  have M0 : Mkc (upd σ L .mark) (upd (upd (upd σ L .mark) b (.lst [])) o (.lst [])) := (Mkc.new hb).trans (.new ho')
  generalize upd (upd (upd σ L .mark) b (.lst [])) o (.lst []) = τ at D0 M0 ⊢
  refine ex_cons ?_
  refine ex_assign ?a ?b ?c
  case a => rfl
  case c => show true = true; rfl
  refine ev_dictS (ks := plainKs) (is := plainIs) ?_ ?_ ?_ ?_ ?_ ?_ ?_ ?_
  · exact .cons (.mk ..) <| .cons (.mk ..) <| .cons (.mk ..) <| .cons (.mk ..) <| .cons (.mk ..) .nil
  · decide
  · intro k hk
    exact fit_of (List.all_eq_true.mp (by kernel_rfl : plainKs.all fitB = true) k hk)
  · rfl
  · nofun
  · decide
  · exact ⟨_, _, rfl, .pos .., _, _, rfl, .pos .., _, _, rfl, .pos .., _, _, rfl, .pos .., _, _, rfl, .pos .., rfl⟩
  refine ex_cut (DueK ts res (upd σ L .mark)) ?_ ?_
  · refine ex_while _ (whl_ind2 (DueJ ts res b o (upd σ L .mark)) (DueK ts res (upd σ L .mark)) (fun _ _ h => h) ?_ (List.replicate k ()) _ _ ⟨0, [], [], rfl, rfl, rfl, rfl, rfl, D0, M0, by rw [List.length_replicate]; exact hr⟩)
    rintro us loc' σ' ⟨i, B, es, l1, l2, l3, l4, l5, D, M, hd⟩
    cases us with
    | nil => cases hd
    | cons u us =>
    have hguard := dueAll_g hd
    have hel : (obsOf es).length = es.length := by unfold obsOf; simp
    rw [hel] at hguard
    cases hi : ts[i]? with
    | none =>
      have hle := List.getElem?_eq_none_iff.mp hi
      exact lt_len C rfl l4 l1 rfl (by simp; lia) rfl (iteF (by simp; lia) ⟨b, o, B, es, l2, l3, D, by lia, by lia, M, dueAll_out hd hi⟩)
    | some t =>
    have hlt := (List.getElem?_eq_some_iff.mp hi).1
    have ht := ho t (List.mem_of_getElem? hi)
    have okD := fun {j iv O'} => dueAll_ok (j := j) (iv := iv) (O' := O') hd hi
    have erD := fun {w} => dueAll_er (w := w) hd hi
    clear hd
    refine lt_len C rfl l4 l1 rfl (by simp; lia) rfl (iteT (by simp; lia) ⟨u, us, rfl, ?_⟩)
    refine ex_cons <| ex_assign_tup (ns := ["text", "at"]) (o := some ["text", "at"]) rfl rfl (by decide) (by rfl) (.inr rfl) ?_
    refine ev_tuple <| evs_cons (ev_sub <| ev_local l1 <| ev_local l4 <| item_str (by first | decide | (refine Nat.le_trans (by assumption) ?_; exact Nat.le_of_ble_eq_true rfl) | lia) hi <| evs_cons (ev_bin <| ev_local l4 <| ev_int ⟨_, .add _ _, evs_nil ⟨by first | exact Nat.le_of_ble_eq_true rfl | simp, _, rfl, rfl, ?_⟩⟩))
    rw [if_neg (by simp)]
    refine ex_cons <| ex_assign (by rfl) <| EvW.mono (Q := fun v σ2 => v = .str (nameAt ts (i + 1)) ∧ σ2 = σ') ?_ (fun v σ2 ⟨h1, h2⟩ => ?_) fun _ z => z
    · refine ev_ifexp <| ts_and <| lt_len C (i := i + 1) rfl rfl l1 rfl (by simp; lia) rfl ?_
      rw [List.length_map]
      cases h1 : ts[i + 1]? with
      | none => exact iteF (by simpa using List.getElem?_eq_none_iff.mp h1) <| iteF rfl <| ev_strC (by kernel_rfl) ⟨by unfold nameAt; rw [h1], rfl⟩
      | some t1 =>
        obtain ⟨c, hc⟩ := (ho t1 (List.mem_of_getElem? h1)).hd
        have hdol : dol t1 = decide ((⟨#[c]⟩ : Str) = "$") := by unfold dol; rw [hc]
        refine iteT (by simpa using (List.getElem?_eq_some_iff.mp h1).1) <| ts_and <| ts_cmp <| ev_first <| ev_sub <| ev_local l1 <| ev_local rfl <| item_str (by first | decide | (refine Nat.le_trans (by assumption) ?_; exact Nat.le_of_ble_eq_true rfl) | lia) h1 ⟨t1, c, rfl, hc, ev_strC (by kernel_rfl) ⟨_, cmp_str _ _, iteB (fun h2 => ?_) fun h2 => ?_⟩⟩
        · exact ts_and_nil <| iteT rfl <| ev_sub <| ev_local l1 <| ev_local rfl <| item_str (by first | decide | (refine Nat.le_trans (by assumption) ?_; exact Nat.le_of_ble_eq_true rfl) | lia) h1 ⟨by unfold nameAt; rw [h1]; dsimp only; rw [hdol, h2]; rfl, rfl⟩
        · exact iteF rfl <| ev_strC (by kernel_rfl) ⟨by unfold nameAt; rw [h1]; dsimp only; rw [hdol, h2]; rfl, rfl⟩
    rw [h1, h2]
    have hnm : nl (nameAt ts (i + 1)) ≤ 20 := by
      unfold nl
      refine Nat.le_trans (Txt.slice_le _ _ _) ?_
      unfold nameAt
      split
      · rename_i t1 e1
        split
        · exact (ho t1 (List.mem_of_getElem? e1)).len
        · decide
      · decide
    have e01 : (i : Int) + 1 - 1 = (i : Int) := by lia
    refine ex_cons <| ex_if <| ts_cmp <| ev_local rfl <| ev_tupS rfl (by kernel_rfl) (by decide) ⟨(["block", "loop", "if"] : List Str).any (· == t), rfl, iteB (fun b1 => ?_) fun b1 => ?_⟩
    · refine ex_cons <| ex_expr <| lst_append rfl <| ev_local l3 ⟨o, _, rfl, D.oo, ev_list <| evs_cons <| ev_local rfl <| evs_cons <| ev_local rfl <| evs_cons (ev_bin <| ev_local rfl <| ev_int ⟨_, .sub _ _, evs_nil ⟨by first | exact Nat.le_of_ble_eq_true rfl | simp, .inr fun e he => ⟨_, upd_out D.oo he, by simp; lia, ?_⟩⟩⟩)⟩
      rw [e01]
      have D1 := D.push he ⟨nameAt ts (i + 1), t, i, false⟩
      have M1 : Mkc (upd σ L .mark) (upd (upd σ' e (.lst (lawVs ⟨nameAt ts (i + 1), t, i, false⟩))) o (.lst (es.map (fun p => V.ref p.1) ++ [.ref e]))) := M.trans ((Mkc.new he).trans (.put (upd_out D.oo he) (by nofun)))
      obtain ⟨j, hj⟩ := idxS_some b1
      refine ex_cons <| ex_expr <| lst_append rfl <| ev_local l2 ⟨b, _, rfl, D1.bb, ev_tuple <| evs_cons (ev_bin <| ev_int <| ev_method rfl <| ev_list <| evs_strs (ss := ["block", "loop", "if"]) rfl (by kernel_rfl) ⟨by first | exact Nat.le_of_ble_eq_true rfl | simp, .inl ⟨.builtin "list.index", _, 0, .blt "list" "list.index" rfl F.plainAttrs_list F.slot_list_index (by kernel_rfl), keep_builtin _, Nat.zero_le _, evs_cons <| ev_local rfl <| evs_nil <|
        m_index (ss := ["block", "loop", "if"]) rfl rfl (by decide) hj ⟨_, .add _ _, evs_cons (ev_neg <| ev_int ⟨64, rfl, evs_nil ⟨by first | exact Nat.le_of_ble_eq_true rfl | simp, _, D1.bb, by lia, ?_⟩⟩)⟩⟩⟩)⟩
      have ebl : blIx t = (j : Int) := by unfold blIx; rw [hj]; rfl
      rw [← ebl]
      have D2 := D1.setB (B ++ [.tup [.int (2 + blIx t), .int (-64)]])
      have M2 := M1.trans (.put D1.bb (by nofun) (m' := .lst (B ++ [.tup [.int (2 + blIx t), .int (-64)]])))
      refine ex_cons <| ex_assign (by rfl) <| ev_bin <| ev_local rfl <| bcall (b_len C) rfl (keep_builtin _) rfl rfl <| evs_cons (ev_cut <| ev_local rfl <| ev_int ⟨_, rfl, .inr ⟨_, rfl, evs_nil <| bi_len (n := nl (nameAt ts (i + 1))) rfl (by first | decide | (refine Nat.le_trans (by assumption) ?_; exact Nat.le_of_ble_eq_true rfl) | lia) ⟨_, .add _ _, ex_nil ?_⟩⟩⟩)
      exact ex_nil ⟨i + 1 + nl (nameAt ts (i + 1)), _, _, l1, l2, l3, rfl, l5, D2, M2, by unfold obsOf; rw [List.map_append]; exact okD (dueStep_blk b1)⟩
    refine ex_cons <| ex_if <| ts_cmp <| ev_local rfl <| ev_tupS rfl (by kernel_rfl) (by decide) ⟨(["end", "else"] : List Str).any (· == t), rfl, iteB (fun b2 => ?_) fun b2 => ?_⟩
    · have hlen : (es.map fun p => V.ref p.1).isEmpty = es.isEmpty := by cases es <;> rfl
      refine ex_cons <| ex_if <| ts_eq_nil <| ev_local l3 <| ev_list <| evs_nil ⟨by first | exact Nat.le_of_ble_eq_true rfl | simp, .inl ⟨_, lk_ref D.oo, rfl, ?_⟩⟩
      rcases List.eq_nil_or_concat es with rfl | ⟨es0, p, hp⟩
      · refine iteT rfl <| ex_cons <| ex_return <| ev_tuple <| evs_cons <| ev_none <| evs_cons (ev_tuple <| evs_cons <| ev_strC (by kernel_rfl) <| evs_cons (ev_bin <| ev_local rfl <| ev_int ⟨_, .sub _ _, evs_nil ⟨by first | exact Nat.le_of_ble_eq_true rfl | simp, evs_nil ⟨by first | exact Nat.le_of_ble_eq_true rfl | simp, ?_⟩⟩⟩))
        refine fin M ?_
        rw [e01, erD (dueStep_end0 b1 b2)]; rfl
      rw [List.concat_eq_append] at hp
      subst hp
      obtain ⟨e, ob⟩ := p
      have eob : obsOf (es0 ++ [(e, ob)]) = obsOf es0 ++ [ob] := by unfold obsOf; simp
      have e0 : dueStep ts i t (obsOf (es0 ++ [(e, ob)])) = endD ts i t (obsOf es0) ob := by rw [eob, dueStep_end1 b1 b2]
      have hoo := D.oo
      rw [List.map_append, List.map_cons, List.map_nil] at hoo
      have hen := D.en (e, ob) (by simp)
      have lk1 : ∀ {k : Nat} {x : V}, (lawVs ob)[k]? = some x → Item σ' (.ref e) (.int k) x := fun {k x} h => .lst _ (lawVs ob) _ _ (lk_ref hen.1) (by have := (List.getElem?_eq_some_iff.mp h).1; have : (lawVs ob).length = 3 := rfl; lia) (ixAt_nat h)
      have lkO : Item σ' (.ref o) (.int (-1)) (.ref e) := .lst _ _ _ _ (lk_ref hoo) (by first | decide | (refine Nat.le_trans (by assumption) ?_; exact Nat.le_of_ble_eq_true rfl) | lia) (ixAt_last (by simp))
      refine iteF (by simp) <| ex_nil ?_
      refine ex_cons <| ex_if <| ts_cmp <| ev_local rfl <| ev_tuple <| evs_cons <| ev_strC (by kernel_rfl) <| evs_cons (ev_sub <| ev_sub <| ev_local l3 <| ev_neg <| ev_int ⟨1, rfl, .ref e, lkO, ev_int ⟨.str ob.name, lk1 (k := 0) rfl, evs_nil ⟨by first | exact Nat.le_of_ble_eq_true rfl | simp, !(["", ob.name] : List Str).any (· == nameAt ts (i + 1)), rfl, ?_⟩⟩⟩)
      cases b3 : (["", ob.name] : List Str).any (· == nameAt ts (i + 1)) with
      | false =>
        refine iteT rfl <| ex_cons <| ex_return <| ev_tuple <| evs_cons <| ev_none <| evs_cons (ev_tuple <| evs_cons <| ev_strC (by kernel_rfl) <| evs_cons <| ev_local rfl <| evs_nil ⟨by first | exact Nat.le_of_ble_eq_true rfl | simp, evs_nil ⟨by first | exact Nat.le_of_ble_eq_true rfl | simp, fin M ?_⟩⟩)
        rw [erD (e0.trans (endD_mis b3))]; rfl
      | true =>
      refine iteF rfl <| ex_nil ?_
      refine ex_cut (DueC2 ts b o (i + 1) t (nameAt ts (i + 1)) (t = "else" ∧ obW ob ≠ "if") σ') ?_ ?_
      · refine ex_if <| ts_and <| ts_cmp <| ev_local rfl <| ev_strC (by kernel_rfl) ⟨_, cmp_str _ _, ?_⟩
        by_cases b4 : t = "else"
        · refine iteT (by first | exact decide_eq_true (by assumption) | exact decide_eq_false (by assumption) | exact ndF (by assumption) | exact ndT (by assumption)) <| ts_and <| ts_cmp <| ev_sub <| ev_sub <| ev_local l3 <| ev_neg <| ev_int ⟨1, rfl, .ref e, lkO, ev_int ⟨.str (obW ob), lk1 (k := 1) rfl, ev_strC (by kernel_rfl) ⟨_, cmp_strn _ _, ?_⟩⟩⟩
          by_cases b5 : obW ob = "if"
          · exact iteF (by first | exact decide_eq_true (by assumption) | exact decide_eq_false (by assumption) | exact ndF (by assumption) | exact ndT (by assumption)) <| iteF rfl <| ex_nil ⟨rfl, l1, l2, l3, rfl, l5, rfl, rfl, fun q => q.2 b5⟩
          · refine iteT (by first | exact decide_eq_true (by assumption) | exact decide_eq_false (by assumption) | exact ndF (by assumption) | exact ndT (by assumption)) <| ts_and_nil <| iteT rfl <| ex_cons <| ex_return <| ev_tuple <| evs_cons <| ev_none <| evs_cons (ev_tuple <| evs_cons <| ev_strC (by kernel_rfl) <| evs_cons (ev_bin <| ev_local rfl <| ev_int ⟨_, .sub _ _, evs_nil ⟨by first | exact Nat.le_of_ble_eq_true rfl | simp, evs_nil ⟨by first | exact Nat.le_of_ble_eq_true rfl | simp, ?_⟩⟩⟩))
            refine fin M ?_
            rw [e01, erD (e0.trans (endD_bad b3 ⟨b4, b5⟩))]; rfl
        · exact iteF (by first | exact decide_eq_true (by assumption) | exact decide_eq_false (by assumption) | exact ndF (by assumption) | exact ndT (by assumption)) <| iteF rfl <| ex_nil ⟨rfl, l1, l2, l3, rfl, l5, rfl, rfl, fun q => b4 q.1⟩
      rintro loc2 σ2 ⟨rfl, l1, l2, l3, l4, l5, l6, l7, b5⟩
      have hB2 : B.length ≤ 2 ^ 20 := by lia
      refine ex_cons <| ex_expr <| lst_append rfl <| ev_local l2 ⟨b, _, rfl, D.bb, EvW.mono (Q := fun v σ3 => v = .tup [.int (if t = "end" then 11 else 5)] ∧ σ3 = σ2) ?_ (fun v σ3 ⟨h3, h4⟩ => ?_) fun _ z => z⟩
      · refine ev_ifexp <| ts_cmp <| ev_local l6 <| ev_strC (by kernel_rfl) ⟨_, cmp_str _ _, ?_⟩
        by_cases b6 : t = "end"
        · exact iteT (by first | exact decide_eq_true (by assumption) | exact decide_eq_false (by assumption) | exact ndF (by assumption) | exact ndT (by assumption)) <| ev_tuple <| evs_cons <| ev_int <| evs_nil ⟨by first | exact Nat.le_of_ble_eq_true rfl | simp, by rw [if_pos b6], rfl⟩
        · exact iteF (by first | exact decide_eq_true (by assumption) | exact decide_eq_false (by assumption) | exact ndF (by assumption) | exact ndT (by assumption)) <| ev_tuple <| evs_cons <| ev_int <| evs_nil ⟨by first | exact Nat.le_of_ble_eq_true rfl | simp, by rw [if_neg b6], rfl⟩
      rw [h3, h4]
      refine ⟨_, D.bb, hB2, ?_⟩
      have D2 := D.setB (B ++ [.tup [.int (if t = "end" then 11 else 5)]])
      have M2 := M.trans (.put D.bb (by nofun) (m' := .lst (B ++ [.tup [.int (if t = "end" then 11 else 5)]])))
      refine ex_cut (DueC ts b o (i + 1) (nameAt ts (i + 1)) (B ++ [.tup [.int (if t = "end" then 11 else 5)]]) (if t = "end" then obsOf es0 else obsOf es0 ++ [{ ob with els := true }]) (upd σ L .mark)) ?_ ?_
      · have hoo2 := D2.oo
        rw [List.map_append, List.map_cons, List.map_nil] at hoo2
        refine ex_if <| ts_cmp <| ev_local l6 <| ev_strC (by kernel_rfl) ⟨_, cmp_str _ _, ?_⟩
        by_cases b6 : t = "end"
        · refine iteT (by first | exact decide_eq_true (by assumption) | exact decide_eq_false (by assumption) | exact ndF (by assumption) | exact ndT (by assumption)) <| ex_cons <| ex_expr <| lst_pop rfl <| ev_local l3 ⟨o, _, _, rfl, hoo2, by simp; simp at hguard; lia, ex_nil ⟨es0, l1, l2, l3, l4, l5, l7, D2.pop, M2.trans (.put hoo2 (by nofun)), by rw [if_pos b6]⟩⟩
        · have hen2 := D2.en (e, ob) (by simp)
          refine iteF (by first | exact decide_eq_true (by assumption) | exact decide_eq_false (by assumption) | exact ndF (by assumption) | exact ndT (by assumption)) <| ex_cons <| ex_setitem <| ev_strC (by kernel_rfl) <| ev_sub <| ev_local l3 <| ev_neg <| ev_int ⟨1, rfl, .ref e, .lst _ _ _ _ (lk_ref hoo2) (by first | decide | (refine Nat.le_trans (by assumption) ?_; exact Nat.le_of_ble_eq_true rfl) | lia) (ixAt_last (by simp)), ev_int ⟨e, lawVs ob, 1, rfl, hen2.1, rfl, by decide, by show (1 : Int) < ((3 : Nat) : Int); decide, by show 3 ≤ _; decide, ex_nil ⟨_, l1, l2, l3, l4, l5, l7, D2.setE { ob with els := true }, M2.trans (.put hen2.1 (by nofun)), by rw [if_neg b6]; unfold obsOf; simp⟩⟩⟩
      rintro loc3 σ3 ⟨es', l1, l2, l3, l4, l5, l7, D3, M3, e3⟩
      refine ex_cons <| ex_assign (by rfl) <| ev_bin <| ev_local l4 <| bcall (b_len C) rfl (keep_builtin _) rfl rfl <| evs_cons (ev_cut <| ev_local l7 <| ev_int ⟨_, rfl, .inr ⟨_, rfl, evs_nil <| bi_len (n := nl (nameAt ts (i + 1))) rfl (by first | decide | (refine Nat.le_trans (by assumption) ?_; exact Nat.le_of_ble_eq_true rfl) | lia) ⟨_, .add _ _, ex_nil ?_⟩⟩⟩)
      exact ex_nil <| ex_nil ⟨i + 1 + nl (nameAt ts (i + 1)), _, _, l1, l2, l3, rfl, l5, D3, M3, by rw [e3]; exact okD (e0.trans (endD_ok b3 b5))⟩
    refine ex_cons <| ex_if <| ts_cmp <| ev_local rfl <| ev_tupS rfl (by kernel_rfl) (by decide) ⟨(["br", "br_if", "br_table"] : List Str).any (· == t), rfl, iteB (fun b3 => ?_) fun b3 => ?_⟩
    · have hnl : (obsOf es).length ≤ 1000 := by lia
      refine ex_cons <| ex_assign (by rfl) <| gcall (n := 5) (g__law_branch C) (keepF C rfl) rfl (by decide) rfl <| evs_cons <| ev_local l1 <| evs_cons <| ev_local rfl <| evs_cons (ev_comp (cl := []) rfl rfl rfl <| iter_ev <| ev_local l3 ⟨_, .live o _ D.oo, es.map fun p => V.ref p.1, es.map fun p => V.str p.2.name, fun σ2 hE k => ?_, by simp; lia, ?_, .inl <| evs_nil ?_⟩)
      · show (match σ2 o with | some (.lst l') => some l'[k]? | _ => none) = _
        rw [hE o (by rw [D.oo]; nofun), D.oo]
      · refine compL_all (fun p : Addr × Ob => V.ref p.1) (fun p => V.str p.2.name) fun p hp => ⟨_, rfl, fun σ2 hE => ?_⟩
        have hen := (D.en p hp).1
        refine ev_sub <| ev_local rfl <| ev_int ⟨.str p.2.name, .lst _ (lawVs p.2) 0 _ (lk_ref (by rw [hE _ (by rw [hen]; nofun)]; exact hen)) (by first | decide | (refine Nat.le_trans (by assumption) ?_; exact Nat.le_of_ble_eq_true rfl) | lia) (ixAt_nat (i := 0) rfl), rfl, rfl⟩
      rw [show (es.map fun p => V.str p.2.name) = ((obsOf es).map (·.name)).map V.str by unfold obsOf; rw [List.map_map, List.map_map]; rfl]
      refine c_law_branch C (i := i) ho hz (by rw [List.length_map]; lia) hi b3 ?_
      rcases branchV_or (word := t) (ts := ts) (i1 := i + 1) (names := (obsOf es).map (·.name)) with ⟨w, hw⟩ | ⟨kk, ns, hw, hns⟩
      · rw [hw]
        refine ex_cons <| ex_if <| ts_plain <| bcall (b_isinstance C) rfl (keep_builtin _) rfl rfl <| evs_cons (ev_sub <| ev_local rfl <| ev_int ⟨.str w.1, .tup _ 0 _ (by first | decide | (refine Nat.le_trans (by assumption) ?_; exact Nat.le_of_ble_eq_true rfl) | lia) (ixAt_nat (i := 0) rfl), evs_cons (ev_builtin (b_str C) rfl <| evs_nil <| bi_isi_ty (b := true) rfl ⟨_, rfl, iteT rfl ?_⟩)⟩)
        refine ex_cons <| ex_return <| ev_tuple <| evs_cons <| ev_none <| evs_cons <| ev_local rfl <| evs_nil ⟨by first | exact Nat.le_of_ble_eq_true rfl | simp, fin M ?_⟩
        rw [erD (dueStep_brE b1 b2 b3 hw)]; rfl
      · rw [hw]
        refine ex_cons <| ex_if <| ts_plain <| bcall (b_isinstance C) rfl (keep_builtin _) rfl rfl <| evs_cons (ev_sub <| ev_local rfl <| ev_int ⟨.int kk, .tup _ 0 _ (by first | decide | (refine Nat.le_trans (by assumption) ?_; exact Nat.le_of_ble_eq_true rfl) | lia) (ixAt_nat (i := 0) rfl), evs_cons (ev_builtin (b_str C) rfl <| evs_nil <| bi_isi_ty (b := false) rfl ⟨_, rfl, iteF rfl <| ex_nil ?_⟩)⟩)
        have t1 : Item σ' (.tup [.int kk, .lst ns]) (.int ((1 : Nat) : Int)) (.lst ns) := .tup _ _ _ (by first | decide | (refine Nat.le_trans (by assumption) ?_; exact Nat.le_of_ble_eq_true rfl) | lia) (ixAt_nat (i := 1) rfl)
        refine ex_cons <| ex_expr <| lst_append rfl <| ev_local l2 ⟨b, _, rfl, D.bb, bcall (b_tuple C) rfl (keep_type _) rfl rfl <| evs_cons (ev_cat <| ev_list <| evs_cons (ev_bin <| ev_int <| ev_sub <| ev_local rfl <| ev_int ⟨.int kk, .tup _ 0 _ (by first | decide | (refine Nat.le_trans (by assumption) ?_; exact Nat.le_of_ble_eq_true rfl) | lia) (ixAt_nat (i := 0) rfl), _, .add _ _, evs_nil ⟨by first | exact Nat.le_of_ble_eq_true rfl | simp, .inl <| ev_sub <| ev_local rfl <| ev_int ⟨.lst ns, t1, _, _, rfl, rfl, by simp; lia, .inl <| evs_nil <| bi_tuple rfl (by simp; lia) ⟨_, D.bb, by lia, ?_⟩⟩⟩⟩))⟩
        have D2 := D.setB (B ++ [.tup (.int (12 + kk) :: ns)])
        have M2 := M.trans (.put D.bb (by nofun) (m' := .lst (B ++ [.tup (.int (12 + kk) :: ns)])))
        refine ex_cons <| ex_assign (by rfl) <| ev_bin <| ev_local rfl <| bcall (b_len C) rfl (keep_builtin _) rfl rfl <| evs_cons (ev_sub <| ev_local rfl <| ev_int ⟨.lst ns, .tup _ _ _ (by first | decide | (refine Nat.le_trans (by assumption) ?_; exact Nat.le_of_ble_eq_true rfl) | lia) (ixAt_nat (i := 1) rfl), evs_nil <| bi_len (n := ns.length) rfl (by first | decide | (refine Nat.le_trans (by assumption) ?_; exact Nat.le_of_ble_eq_true rfl) | lia) ⟨_, .add _ _, ex_nil <| ex_nil <| ex_nil ?_⟩⟩)
        exact ex_nil ⟨i + 1 + ns.length, _, _, l1, l2, l3, rfl, l5, D2, M2, okD (dueStep_brO b1 b2 b3 hw)⟩
    refine ex_cons <| ex_if <| ts_cmp <| ev_local rfl <| ev_local l5 ⟨(getF plainKs (plainIs.map V.int) t).isSome, rfl, ?_⟩
    cases b4 : getF plainKs (plainIs.map V.int) t with
    | some c =>
      refine iteT rfl ?_
      refine ex_cons <| ex_expr <| lst_append rfl <| ev_local l2 ⟨b, _, rfl, D.bb, ev_tuple <| evs_cons (ev_sub <| ev_local l5 <| ev_local rfl ⟨c, .sdc _ _ _ _ b4, evs_nil ⟨by first | exact Nat.le_of_ble_eq_true rfl | simp, _, D.bb, by lia, ?_⟩⟩)⟩
      have D2 := D.setB (B ++ [.tup [c]])
      have M2 := M.trans (.put D.bb (by nofun) (m' := .lst (B ++ [.tup [c]])))
      exact ex_nil <| ex_nil <| ex_nil <| ex_nil <| ex_nil ⟨i + 1, _, _, l1, l2, l3, rfl, l5, D2, M2, okD (dueStep_rest b1 b2 b3 b4)⟩
    | none =>
    refine iteF rfl ?_
    have hr := dueStep_rest (ts := ts) (i := i) (O := obsOf es) b1 b2 b3 b4
    refine ex_cons <| ex_if <| ts_cmp <| ev_local rfl <| ev_strC (by kernel_rfl) ⟨_, cmp_str _ _, iteB (fun b5 => ?_) fun b5 => ?_⟩
    · refine ex_cons <| ex_return <| ev_tuple <| evs_cons <| ev_none <| evs_cons (ev_tuple <| evs_cons <| ev_local rfl <| evs_cons (ev_bin <| ev_int <| ev_local rfl ⟨_, .sub _ _, evs_nil ⟨by first | exact Nat.le_of_ble_eq_true rfl | simp, evs_nil ⟨by first | exact Nat.le_of_ble_eq_true rfl | simp, fin M ?_⟩⟩⟩))
      rw [erD (hr.trans (if_pos (of_decide_eq_true b5)))]; rfl
    replace hr := hr.trans (if_neg (of_decide_eq_false b5))
    refine ex_cons <| ex_return <| ev_tuple <| evs_cons <| ev_none <| evs_cons (ev_ifexp <| ts_cmp <| ev_local rfl <| ev_strC (by kernel_rfl) ⟨_, cmp_str _ _, iteB (fun b6 => ?_) fun b6 => ?_⟩)
    · refine ev_tuple <| evs_cons <| ev_strC (by kernel_rfl) <| evs_cons (ev_bin <| ev_local rfl <| ev_int ⟨_, .sub _ _, evs_nil ⟨by first | exact Nat.le_of_ble_eq_true rfl | simp, evs_nil ⟨by first | exact Nat.le_of_ble_eq_true rfl | simp, fin M ?_⟩⟩⟩)
      rw [e01, erD (hr.trans (if_pos (of_decide_eq_true b6)))]; rfl
    · refine gcall (n := 2) (g__law_no C) (keepF C rfl) rfl (by decide) rfl <| evs_cons <| ev_local rfl <| evs_cons (ev_bin <| ev_local rfl <| ev_int ⟨_, .sub _ _, evs_nil <| c_law_no C ht <| evs_nil ⟨by first | exact Nat.le_of_ble_eq_true rfl | simp, fin M ?_⟩⟩)
      rw [e01, erD (hr.trans (if_neg (of_decide_eq_false b6)))]; rfl
  · rintro loc' σ' ⟨b, o, B, es, l2, l3, D, hB, he, M, hres⟩
    refine ex_cons <| ex_if <| ts_ne_nil <| ev_local l3 <| ev_list <| evs_nil ⟨by first | exact Nat.le_of_ble_eq_true rfl | simp, .inl ⟨_, lk_ref D.oo, rfl, ?_⟩⟩
    rcases List.eq_nil_or_concat es with rfl | ⟨es0, p, hp⟩
    · refine iteF rfl <| ex_nil <| ex_cons <| ex_return <| ev_tuple <| evs_cons (ev_cat <| ev_local l2 <| ev_list <| evs_cons (ev_tuple <| evs_cons <| ev_int <| evs_nil ⟨by first | exact Nat.le_of_ble_eq_true rfl | simp, evs_nil ⟨by first | exact Nat.le_of_ble_eq_true rfl | simp, .inl ⟨B, [.tup [.int 11]], lk_ref D.bb, rfl, by simp; lia, .inl <| evs_cons <| ev_none <| evs_nil ⟨by first | exact Nat.le_of_ble_eq_true rfl | simp, fin M ?_⟩⟩⟩⟩))
      rw [hres]; rfl
    · rw [List.concat_eq_append] at hp
      subst hp
      obtain ⟨e, ob⟩ := p
      have hoo := D.oo
      rw [List.map_append, List.map_cons, List.map_nil] at hoo
      have hen := D.en (e, ob) (by simp)
      refine iteT (by simp) <| ex_cons <| ex_return <| ev_tuple <| evs_cons <| ev_none <| evs_cons (ev_tuple <| evs_cons <| ev_strC (by kernel_rfl) <| evs_cons (ev_sub <| ev_sub <| ev_local l3 <| ev_neg <| ev_int ⟨1, rfl, .ref e, .lst _ _ _ _ (lk_ref hoo) (by first | decide | (refine Nat.le_trans (by assumption) ?_; exact Nat.le_of_ble_eq_true rfl) | lia) (ixAt_last (by simp)), ev_int ⟨.int (ob.place : Nat), .lst _ (lawVs ob) 2 _ (lk_ref hen.1) (by first | decide | (refine Nat.le_trans (by assumption) ?_; exact Nat.le_of_ble_eq_true rfl) | lia) (ixAt_nat (i := 2) rfl), evs_nil ⟨by first | exact Nat.le_of_ble_eq_true rfl | simp, evs_nil ⟨by first | exact Nat.le_of_ble_eq_true rfl | simp, fin M ?_⟩⟩⟩⟩))
      rw [hres]; unfold obsOf; simp [dueV, wrongV]
end
end Mine
end

section
namespace Mine
noncomputable def wordsL : List Str := ["block", "loop", "if", "else", "end", "br", "br_if", "br_table", "nop", "select", "unreachable", "i32.add", "drop"]
noncomputable def othersL : List Str := ["$a", "$b", "0", "1", "7", "4294967295", "4294967296", "-1", "+0", "then", "item", "i32.nand", "f64.add", "]"]
noncomputable def numL : List Str := ["0", "1", "2", "3", "4", "5", "6", "7", "8", "9", "10", "11", "12", "13", "14", "15", "16", "17", "18", "19", "20", "21"]
noncomputable def allT : List Str := wordsL ++ othersL ++ (["$c"] : List Str) ++ numL
abbrev GoodT (t : Str) : Prop := t ∈ allT
noncomputable def namesL : List Str := ["", "$a", "$b", "$c"]
theorem num_good : ∀ k, k < 22 → Str.ofString (toString ((k : Nat) : Int)) = numL.getD k "" := by
  intro k hk
  have : ∀ k ∈ List.range 22, Str.ofString (toString ((k : Nat) : Int)) = numL.getD k "" := by decide +kernel
  exact this k (List.mem_range.mpr hk)
noncomputable def opsV (ops : List (Str × Str)) : List V := ops.map fun p => .tup [.str p.1, .str p.2]
noncomputable def OpsOk (ops : List (Str × Str)) : Prop := ∀ p ∈ ops, p.2 ∈ namesL
noncomputable def namesOf (ops : List (Str × Str)) : List Str := (ops.filter fun p => !decide (p.2 = ("" : Str))).map (·.2)
/-- a label for a branch -/
noncomputable def goalT (x : Int) (ops : List (Str × Str)) : Str :=
  if x.fmod 3 = 0 ∨ (namesOf ops).isEmpty = true then numL.getD ((x.fdiv 3).fmod ((ops.length : Int) + 2)).toNat ""
  else (namesOf ops).getD ((x.fdiv 3).fmod ((namesOf ops).length : Int)).toNat ""
theorem mod_lt {a : Int} {n : Nat} (h : 0 < n) : (a.fmod (n : Int)).toNat < n ∧ a.fmod (n : Int) = ((a.fmod (n : Int)).toNat : Int) := by
  rw [Int.fmod_eq_emod_of_nonneg a (Int.natCast_nonneg n)]
  have h1 : 0 ≤ a % (n : Int) := Int.emod_nonneg a (Int.natCast_ne_zero.mpr (Nat.ne_of_gt h))
  have h2 : a % (n : Int) < n := Int.emod_lt_of_pos a (Int.natCast_pos.mpr h)
  exact ⟨(Int.toNat_lt h1).mpr h2, (Int.toNat_of_nonneg h1).symm⟩
theorem namesOf_good {ops : List (Str × Str)} (h : OpsOk ops) : ∀ t ∈ namesOf ops, GoodT t := fun t ht => by
  obtain ⟨p, hp, rfl⟩ := List.mem_map.mp ht
  obtain ⟨h1, h2⟩ := List.mem_filter.mp hp
  have h3 := h p h1
  have h2' : p.2 ≠ ("" : Str) := by simpa using h2
  unfold namesL at h3
  simp only [List.mem_cons, List.not_mem_nil, or_false] at h3
  rcases h3 with e | e | e | e
  · exact absurd e h2'
  · rw [e]; decide
  · rw [e]; decide
  · rw [e]; decide
theorem goalT_good {x : Int} {ops : List (Str × Str)} (h : OpsOk ops) (hz : ops.length ≤ 20) : GoodT (goalT x ops) := by
  unfold goalT
  split
  · have h1 := (mod_lt (a := x.fdiv 3) (n := ops.length + 2) (Nat.succ_pos _)).1
    have : ∀ k, k < 22 → GoodT (numL.getD k "") := by decide +kernel
    exact this _ (Nat.lt_of_lt_of_le h1 (Nat.add_le_add_right (by assumption) 2))
  · rename_i h0
    have hne : 0 < (namesOf ops).length := List.length_pos_iff.mpr fun q => h0 (.inr (by rw [q]; rfl))
    have h1 := (mod_lt (a := x.fdiv 3) hne).1
    rw [List.getD_eq_getElem?_getD, List.getElem?_eq_getElem h1]
    exact namesOf_good h _ (List.getElem_mem _)
section
variable {G : Gd} {md : Md} {loc : Loc} {σ : Store} {X : Exn → Prop}

theorem TsW.mono {e : Expr} {Q Q' : Bool → Store → Prop} (h : TsW G md e loc σ Q X) (hQ : ∀ v σ', Q v σ' → Q' v σ') : TsW G md e loc σ Q' X :=
  fun A env m s S => wpAny_mono (h A env m s S) (fun _ _ ⟨σ', a, b, c⟩ => ⟨σ', hQ _ _ a, b, c⟩) fun _ _ z => z

theorem ex_asgL {x : Str} {px pos lp : Pos} {es : List Expr} {Q : Flw → Loc → Store → Prop} (hx : md.sc.lookup x = some .local) (h : EvW G md (.List es lp) loc σ (AsgQ x loc Q) X) : Ex1 G md (.Assign [.Name x px] (.List es lp) pos) loc σ Q X := ex_assign hx h rfl

theorem c_law_any (C : Cx G) {Q : V → Store → Prop} (hq : Q (.lst ((wordsL ++ othersL).map V.str)) σ) : CallW G 1 (.ref 582) [] σ Q X := by
  refine call_fn (n := 0) (fnO (ps := []) C rfl rfl rfl rfl (bt0 fun _ => .of_eq rfl)) (by decide) (by decide) rfl fun L hL => ?_
  refine ex_cons ?_
  refine ex_asgL ?_ ?_
  · rfl
  refine ev_list ?_
  refine evs_strs (ss := wordsL) ?_ ?_ ?_
  · kernel_rfl
  · kernel_rfl
  refine ⟨?_, .inl ?_⟩
  · decide +kernel
  refine ex_cons ?_
  refine ex_asgL ?_ ?_
  · rfl
  refine ev_list ?_
  refine evs_strs (ss := othersL) ?_ ?_ ?_
  · kernel_rfl
  · kernel_rfl
  refine ⟨?_, .inl ?_⟩
  · decide +kernel
  refine ex_cons <| ex_return <| ev_cat <| ev_local rfl <| ev_local rfl ⟨_, _, rfl, rfl, by decide, .inl ?_⟩
  show Q _ (era (upd σ L .mark) L)
  rw [era_upd hL, ← List.map_append]; exact hq

theorem c_law_goal (C : Cx G) {x : Int} {o : Addr} {ops : List (Str × Str)} {Q : V → Store → Prop} (ho : σ o = some (.lst (opsV ops))) (hok : OpsOk ops) (hz : ops.length ≤ 20) (hq : Q (.str (goalT x ops)) σ) : CallW G 2 (.ref 587) [.int x, .ref o] σ Q X := by
  refine call_fn (n := 1) (fnO (ps := ["x", "opened"]) C rfl rfl rfl rfl (bt2 fun _ _ _ => .of_eq rfl)) (by decide) (by decide) rfl fun L hL => ?_
  have fin : ∀ v, v = V.str (goalT x ops) → Q v (era (upd σ L .mark) L) := fun v e => by rw [era_upd hL, e]; exact hq
  have ho1 : upd σ L .mark o = some (.lst (opsV ops)) := upd_out ho hL
  have hlen : (opsV ops).length = ops.length := by unfold opsV; simp
  refine ex_cons <| ex_assign_comp (cl := []) rfl rfl rfl ((clOf_skip rfl).trans <| (clOf_skip rfl).trans <| (clOf_skip rfl).trans rfl) rfl ?_
  refine iter_ev <| ev_local rfl ⟨_, .live o _ ho1, ops.map fun p => V.tup [.str p.1, .str p.2], (namesOf ops).map V.str, fun σ2 hE k => ?_, by simp; lia, ?_, .inl ?_⟩
  · show (match σ2 o with | some (.lst l') => some l'[k]? | _ => none) = _
    rw [hE o (by rw [ho1]; nofun), ho1]; rfl
  · unfold namesOf
    rw [List.map_map]
    refine compL_filter (fun p : Str × Str => V.tup [.str p.1, .str p.2]) _ _ fun p hp => ⟨_, rfl, fun σ2 hE => ?_, fun _ σ2 hE => ev_local rfl ⟨rfl, rfl⟩⟩
    exact ts_cmp <| ev_local rfl <| ev_strC (by kernel_rfl) ⟨_, cmp_strn _ _, rfl, rfl⟩
  unfold goalT at fin
  have hlen2 : (namesOf ops).length ≤ 20 := by
    unfold namesOf
    rw [List.length_map]
    exact Nat.le_trans (List.length_filter_le ..) hz
  have hf3 : ∀ a : Int, decide (a.fmod 3 = 0) = true ↔ a.fmod 3 = 0 := fun a => by simp
  refine ex_cut (fun loc' σ' => σ' = upd σ L .mark ∧ loc'.lookup ("x" : Str) = some (.val (.int x)) ∧ loc'.lookup ("names" : Str) = some (.val (.lst ((namesOf ops).map V.str))) ∧ ¬ (x.fmod 3 = 0 ∨ (namesOf ops).isEmpty = true)) ?_ ?_
  · refine ex_if <| TsW.mono (Q := fun b σ' => b = decide (x.fmod 3 = 0 ∨ (namesOf ops).isEmpty = true) ∧ σ' = upd σ L .mark) ?_ fun b σ' ⟨h1, h2⟩ => ?_
    · refine ts_or <| ts_cmp <| ev_bin <| ev_local rfl <| ev_int ⟨_, .mod _ _ (by decide), ev_int ⟨_, cmp_int _ _, iteB (fun h => ?_) fun h => ?_⟩⟩
      · exact ⟨(decide_eq_true (.inl (of_decide_eq_true h))).symm, rfl⟩
      · refine ts_or <| ts_eq_nil <| ev_local rfl <| ev_list <| evs_nil ⟨by first | exact Nat.le_of_ble_eq_true rfl | simp, .inl ⟨(namesOf ops).map V.str, rfl, rfl, ?_⟩⟩
        have e0 : ((namesOf ops).map V.str).isEmpty = (namesOf ops).isEmpty := by cases namesOf ops <;> rfl
        unfold EqNilQ; rw [e0]
        refine iteB (fun h2 => ⟨(decide_eq_true (.inr h2)).symm, rfl⟩) fun h2 => ts_or_nil ⟨(decide_eq_false ?_).symm, rfl⟩
        rintro (q | q)
        · exact of_decide_eq_false h q
        · rw [q] at h2; cases h2
    rw [h1, h2]
    refine iteB (fun h => ?_) fun h => ex_nil ⟨rfl, rfl, rfl, of_decide_eq_false h⟩
    have hm := mod_lt (a := x.fdiv 3) (n := ops.length + 2) (Nat.succ_pos _)
    have e2 : ((ops.length + 2 : Nat) : Int) = (ops.length : Int) + 2 := rfl
    rw [e2] at hm
    refine ex_cons <| ex_return <| bcall (b_str C) rfl (keep_type _) rfl rfl <| evs_cons (ev_bin <| ev_bin <| ev_local rfl <| ev_int ⟨_, .fdiv _ _ (by decide) (by decide), ev_bin <| bcall (b_len C) rfl (keep_builtin _) rfl rfl <| evs_cons <| ev_local rfl <| evs_nil <| bi_len (n := ops.length) (by unfold lenV; rw [lk_ref ho1]; exact congrArg some hlen) (by first | decide | (refine Nat.le_trans (by assumption) ?_; exact Nat.le_of_ble_eq_true rfl) | lia) <| ev_int ⟨_, .add _ _, _, .mod _ _ (by first | decide | (refine Nat.le_trans (by assumption) ?_; exact Nat.le_of_ble_eq_true rfl) | lia), evs_nil ?_⟩⟩)
    generalize (x.fdiv 3).fmod ((ops.length : Int) + 2) = m at hm fin ⊢
    have hs : Str.ofString (toString m) = numL.getD m.toNat "" := by
      rw [hm.2]; exact (num_good m.toNat (by first | decide | (refine Nat.le_trans (by assumption) ?_; exact Nat.le_of_ble_eq_true rfl) | lia))
    refine bi_str_int (i := m) ?_ ?_ ?_
    · have h3 : m.natAbs < 2 ^ 1920 := Nat.lt_of_lt_of_le (show m.natAbs < 2 ^ 5 by lia) (Nat.pow_le_pow_right (by first | decide | (refine Nat.le_trans (by assumption) ?_; exact Nat.le_of_ble_eq_true rfl) | lia) (by first | decide | (refine Nat.le_trans (by assumption) ?_; exact Nat.le_of_ble_eq_true rfl) | lia))
      rcases Nat.eq_zero_or_pos m.natAbs with q | q
      · rw [q]; decide
      · exact (Nat.log2_lt (by first | decide | (refine Nat.le_trans (by assumption) ?_; exact Nat.le_of_ble_eq_true rfl) | lia)).mpr h3
    · rw [hs]
      have : ∀ k, k < 22 → fitB (numL.getD k "") = true := by decide +kernel
      exact fit_of (this _ (by first | decide | (refine Nat.le_trans (by assumption) ?_; exact Nat.le_of_ble_eq_true rfl) | lia))
    · rw [hs]
      exact fin _ (by rw [if_pos (of_decide_eq_true h)])
  rintro loc' σ' ⟨rfl, l1, l2, h0⟩
  rw [if_neg h0] at fin
  have hne : 0 < (namesOf ops).length := List.length_pos_iff.mpr fun q => h0 (.inr (by rw [q]; rfl))
  have hm := mod_lt (a := x.fdiv 3) hne
  refine ex_cons <| ex_return <| ev_sub <| ev_local l2 <| ev_bin <| ev_bin <| ev_local l1 <| ev_int ⟨_, .fdiv _ _ (by decide) (by decide), bcall (b_len C) rfl (keep_builtin _) rfl rfl <| evs_cons <| ev_local l2 <| evs_nil <| bi_len lenV_strs (by first | decide | (refine Nat.le_trans (by assumption) ?_; exact Nat.le_of_ble_eq_true rfl) | lia) ⟨_, .mod _ _ (by first | decide | (refine Nat.le_trans (by assumption) ?_; exact Nat.le_of_ble_eq_true rfl) | lia), ?_⟩⟩
  obtain ⟨t, ht⟩ : ∃ t, (namesOf ops)[((x.fdiv 3).fmod ((namesOf ops).length : Int)).toNat]? = some t := ⟨_, List.getElem?_eq_getElem hm.1⟩
  rw [hm.2]
  refine item_str (by first | decide | (refine Nat.le_trans (by assumption) ?_; exact Nat.le_of_ble_eq_true rfl) | lia) ht (fin _ ?_)
  rw [List.getD_eq_getElem?_getD, ht]; rfl
end
end Mine
end

section
namespace Mine
theorem opsV_app (ops : List (Str × Str)) (p : Str × Str) : opsV (ops ++ [p]) = opsV ops ++ [.tup [.str p.1, .str p.2]] := by unfold opsV; simp
theorem name_good {n : Str} (h : n ∈ namesL) (h0 : n ≠ "") : GoodT n := by
  unfold namesL at h
  simp only [List.mem_cons, List.not_mem_nil, or_false] at h
  rcases h with e | e | e | e
  · exact absurd e h0
  · rw [e]; decide +kernel
  · rw [e]; decide +kernel
  · rw [e]; decide +kernel
theorem two_pow (k : Nat) (h : k < 3) : (4 : Int) ^ ((k : Int)).toNat ≠ 0 ∧ ((4 : Int) ^ ((k : Int)).toNat).natAbs < 1073741824 := by
  have : ∀ k, k < 3 → (4 : Int) ^ ((k : Nat) : Int).toNat ≠ 0 ∧ ((4 : Int) ^ ((k : Nat) : Int).toNat).natAbs < 1073741824 := by decide +kernel
  exact this k h
section
variable {G : Gd} {md : Md} {loc : Loc} {σ : Store} {X : Exn → Prop}

set_option maxHeartbeats 4000000 in
theorem c_law_step (C : Cx G) {x : Int} {o : Addr} {ops : List (Str × Str)} {Q : V → Store → Prop} (ho : σ o = some (.lst (opsV ops))) (hok : OpsOk ops) (hz : ops.length ≤ 20)
    (hq : ∀ (l : List Str) (ops' : List (Str × Str)), (∀ t ∈ l, GoodT t) → l.length ≤ 4 → OpsOk ops' → ops'.length ≤ ops.length + 1 → Q (.lst (l.map V.str)) (upd σ o (.lst (opsV ops')))) : CallW G 3 (.ref 592) [.int x, .ref o] σ Q X := by
  refine (call_fnK (n := 2) (cs := fun L => [("rest", L + 2), ("opened", L + 1)]) (fnO (ps := ["x", "opened"]) C rfl rfl rfl rfl (bt2 fun _ _ _ => .of_eq rfl)) (fun L => by rfl) (fun L x hx => ?_) (fun L => show (["rest", "opened"] : List Str).Nodup by decide) (fun p hp => ?_) rfl fun L hL hc => ?_).w
  · simp only [List.mem_cons, List.not_mem_nil, or_false] at hx
    rcases hx with rfl | rfl <;> rfl
  · simp only [List.mem_cons, List.not_mem_nil, or_false] at hp
    rcases hp with rfl | rfl
    · exact .inl rfl
    · exact .inr ⟨rfl, fun L => rfl⟩
  have c1 : σ (L + 1) = none := hc ("opened", L + 1) (by simp)
  have c2 : σ (L + 2) = none := hc ("rest", L + 2) (by simp)
  have n01 : L + 1 ≠ L := Nat.succ_ne_self L
  have n02 : L + 2 ≠ L := Nat.ne_of_gt (Nat.lt_add_of_pos_right (by decide))
  have n12 : L + 1 ≠ L + 2 := Nat.ne_of_lt (Nat.lt_succ_self _)
  have hst : stC σ L [("rest", L + 2), ("opened", L + 1)] ((["x", "opened"] : List Str).zip [.int x, .ref o]) = upd (upd (upd σ L .mark) (L + 1) (.cell (.ref o))) (L + 2) (.cell (.bi "")) := rfl
  rw [hst]
  refine ex_cons <| ex_assign_lc rfl rfl rfl rfl (by decide) rfl ?_
  refine ev_tuple <| evs_cons (ev_bin <| ev_local rfl <| ev_int ⟨_, .mod _ _ (by decide), evs_cons (ev_bin <| ev_local rfl <| ev_int ⟨_, .fdiv _ _ (by decide) (by decide), evs_nil ⟨by first | exact Nat.le_of_ble_eq_true rfl | simp, _, _, rfl, ?_⟩⟩)⟩)
  rw [upd_upd]
  have hτ : ∀ b, b ≠ L → b ≠ L + 1 → b ≠ L + 2 → upd (upd (upd σ L .mark) (L + 1) (.cell (.ref o))) (L + 2) (.cell (.int (x.fdiv 8))) b = σ b := fun b h0 h1 h2 => by rw [upd_ne _ _ h2, upd_ne _ _ h1, upd_ne _ _ h0]
  have t2 : upd (upd (upd σ L .mark) (L + 1) (.cell (.ref o))) (L + 2) (.cell (.int (x.fdiv 8))) (L + 2) = some (.cell (.int (x.fdiv 8))) := upd_eq ..
  have t1 : upd (upd (upd σ L .mark) (L + 1) (.cell (.ref o))) (L + 2) (.cell (.int (x.fdiv 8))) (L + 1) = some (.cell (.ref o)) := (upd_ne _ _ n12).trans (upd_eq ..)
  have hoL : o ≠ L := ne_of ho hL
  have ho1 : o ≠ L + 1 := ne_of ho c1
  have ho2 : o ≠ L + 2 := ne_of ho c2
  have tO : upd (upd (upd σ L .mark) (L + 1) (.cell (.ref o))) (L + 2) (.cell (.int (x.fdiv 8))) o = some (.lst (opsV ops)) := (hτ o hoL ho1 ho2).trans ho
  generalize upd (upd (upd σ L .mark) (L + 1) (.cell (.ref o))) (L + 2) (.cell (.int (x.fdiv 8))) = τ at hτ t1 t2 tO ⊢
  have hw8 := mod_lt (a := x) (n := 8) (by first | decide | (refine Nat.le_trans (by assumption) ?_; exact Nat.le_of_ble_eq_true rfl) | lia)
  have e8 : ((8 : Nat) : Int) = 8 := rfl
  rw [e8] at hw8
  generalize x.fdiv 8 = rest at t2 ⊢
  generalize x.fmod 8 = w at hw8 ⊢
  have fin : ∀ (v : V) (l : List Str) (ops' : List (Str × Str)), v = V.lst (l.map V.str) → (∀ t ∈ l, GoodT t) → l.length ≤ 4 → OpsOk ops' → ops'.length ≤ ops.length + 1 → Q v (erasC (upd τ o (.lst (opsV ops'))) L [("rest", L + 2), ("opened", L + 1)]) := fun v l ops' e h1 h2 h3 h4 => by
    have : erasC (upd τ o (.lst (opsV ops'))) L [("rest", L + 2), ("opened", L + 1)] = upd σ o (.lst (opsV ops')) := by
      funext b
      unfold erasC
      by_cases hb : b = L ∨ b ∈ ([("rest", L + 2), ("opened", L + 1)] : List (Str × Addr)).map (·.2)
      · rw [if_pos hb]
        simp only [List.map_cons, List.map_nil, List.mem_cons, List.not_mem_nil, or_false] at hb
        rcases hb with rfl | rfl | rfl
        · rw [upd_ne _ _ hoL.symm]; exact hL.symm
        · rw [upd_ne _ _ ho2.symm]; exact c2.symm
        · rw [upd_ne _ _ ho1.symm]; exact c1.symm
      · rw [if_neg hb]
        simp only [List.map_cons, List.map_nil, List.mem_cons, List.not_mem_nil, or_false, not_or] at hb
        by_cases hbo : b = o
        · subst hbo; rw [upd_eq, upd_eq]
        · rw [upd_ne _ _ hbo, upd_ne _ _ hbo]; exact hτ b hb.1 hb.2.2 hb.2.1
    rw [this, e]; exact hq l ops' h1 h2 h3 h4
  have fin0 : ∀ (v : V) (l : List Str), v = V.lst (l.map V.str) → (∀ t ∈ l, GoodT t) → l.length ≤ 4 → Q v (erasC τ L [("rest", L + 2), ("opened", L + 1)]) := fun v l e h1 h2 => by
    have := fin v l ops e h1 h2 hok (by first | decide | (refine Nat.le_trans (by assumption) ?_; exact Nat.le_of_ble_eq_true rfl) | lia)
    rw [upd_self tO] at this; exact this
  have hol : (opsV ops).length = ops.length := by unfold opsV; simp
  have g1 : GoodT "end" ∧ GoodT "else" ∧ GoodT "br" ∧ GoodT "br_if" ∧ GoodT "br_table" := by decide +kernel
  refine ex_cons <| ex_if <| ts_cmp <| ev_local rfl <| ev_int ⟨decide (w < 3), rfl, iteB (fun h => ?_) fun h => ex_nil ?_⟩
  · have hw3 : w.toNat < 3 := by have := of_decide_eq_true h; lia
    obtain ⟨wd, hwd⟩ : ∃ t, (["block", "loop", "if"] : List Str)[w.toNat]? = some t := ⟨_, List.getElem?_eq_getElem (by simpa using hw3)⟩
    have hm := mod_lt (a := rest) (n := 4) (by first | decide | (refine Nat.le_trans (by assumption) ?_; exact Nat.le_of_ble_eq_true rfl) | lia)
    obtain ⟨nm, hnm⟩ : ∃ t, namesL[(rest.fmod 4).toNat]? = some t := ⟨_, List.getElem?_eq_getElem hm.1⟩
    have hnm' : nm ∈ namesL := List.mem_of_getElem? hnm
    have hwg : GoodT wd := by
      have := List.mem_of_getElem? hwd
      revert this; revert wd; intro wd _
      have : ∀ t ∈ (["block", "loop", "if"] : List Str), GoodT t := by decide +kernel
      exact this wd
    refine ex_cons <| ex_assign_tup (ns := ["word", "name"]) (o := some ["word", "name"]) rfl rfl (by decide) (by rfl) (.inr rfl) ?_
    refine ev_tuple <| evs_cons (ev_sub <| ev_list <| evs_strs (ss := ["block", "loop", "if"]) rfl (by kernel_rfl) ⟨by first | exact Nat.le_of_ble_eq_true rfl | simp, .inl <| ev_local rfl ?_⟩)
    rw [hw8.2]
    refine item_str (by decide) hwd ?_
    refine evs_cons (ev_sub <| ev_list <| evs_strs (ss := namesL) (by kernel_rfl) (by kernel_rfl) ⟨by decide +kernel, .inl <| ev_bin <| ev_cell rfl t2 <| ev_int ⟨_, .mod _ _ (by decide), ?_⟩⟩)
    rw [show rest.fmod 4 = ((rest.fmod 4).toNat : Int) from hm.2]
    refine item_str (by decide +kernel) hnm ?_
    refine evs_nil ⟨by first | exact Nat.le_of_ble_eq_true rfl | simp, _, rfl, rfl, ?_⟩
    rw [if_neg (by simp)]
    refine ex_cons <| ex_expr <| lst_append rfl <| ev_cell rfl t1 ⟨o, _, rfl, tO, ev_tuple <| evs_cons <| ev_local rfl <| evs_cons <| ev_local rfl <| evs_nil ⟨by first | exact Nat.le_of_ble_eq_true rfl | simp, _, tO, by lia, ?_⟩⟩
    have e1 : opsV ops ++ [V.tup [.str wd, .str nm]] = opsV (ops ++ [(wd, nm)]) := (opsV_app ops (wd, nm)).symm
    rw [e1]
    have hok' : OpsOk (ops ++ [(wd, nm)]) := fun p hp => by
      rcases List.mem_append.mp hp with q | q
      · exact hok p q
      · simp at q; subst q; exact hnm'
    refine ex_cons <| ex_return <| ev_cat <| ev_list <| evs_cons <| ev_local rfl <| evs_nil ⟨by first | exact Nat.le_of_ble_eq_true rfl | simp, .inl <| ev_ifexp <| ts_cmp <| ev_local rfl <| ev_strC (by kernel_rfl) ⟨_, cmp_strn _ _, ?_⟩⟩
    by_cases hn0 : nm = ""
    · refine iteF (by first | exact decide_eq_true (by assumption) | exact decide_eq_false (by assumption) | exact ndF (by assumption) | exact ndT (by assumption)) <| ev_list <| evs_nil ⟨by first | exact Nat.le_of_ble_eq_true rfl | simp, .inl ⟨_, _, rfl, rfl, by simp, .inl ?_⟩⟩
      exact fin _ [wd] _ rfl (fun t ht => by simp at ht; subst ht; exact hwg) (by simp) hok' (by simp)
    · refine iteT (by first | exact decide_eq_true (by assumption) | exact decide_eq_false (by assumption) | exact ndF (by assumption) | exact ndT (by assumption)) <| ev_list <| evs_cons <| ev_local rfl <| evs_nil ⟨by first | exact Nat.le_of_ble_eq_true rfl | simp, .inl ⟨_, _, rfl, rfl, by simp, .inl ?_⟩⟩
      refine fin _ [wd, nm] _ rfl (fun t ht => ?_) (by simp) hok' (by simp)
      simp only [List.mem_cons, List.not_mem_nil, or_false] at ht
      rcases ht with rfl | rfl
      · exact hwg
      · exact name_good hnm' hn0
  refine ex_cut (fun loc' σ' => σ' = τ ∧ loc'.lookup ("what" : Str) = some (.val (.int w)) ∧ loc'.lookup ("opened" : Str) = some (.cell (L + 1)) ∧ loc'.lookup ("rest" : Str) = some (.cell (L + 2))) ?_ ?_
  · refine ex_if <| ts_and <| ts_cmp <| ev_local rfl <| ev_int ⟨_, cmp_int _ _, iteB (fun h => ?_) fun h => iteF rfl <| ex_nil ⟨rfl, rfl, rfl, rfl⟩⟩
    refine ts_and <| ts_ne_nil <| ev_cell rfl t1 <| ev_list <| evs_nil ⟨by first | exact Nat.le_of_ble_eq_true rfl | simp, .inl ⟨opsV ops, lk_ref tO, rfl, ?_⟩⟩
    rcases List.eq_nil_or_concat ops with rfl | ⟨ops0, p, hp⟩
    · exact iteF rfl <| iteF rfl <| ex_nil ⟨rfl, rfl, rfl, rfl⟩
    rw [List.concat_eq_append] at hp
    subst hp
    obtain ⟨wd, nm⟩ := p
    have hnm' : nm ∈ namesL := hok (wd, nm) (by simp)
    have hok0 : OpsOk ops0 := fun p hp => hok p (List.mem_append_left _ hp)
    have tO' := tO
    rw [opsV_app] at tO'
    have hl0 : (opsV ops0).length = ops0.length := by unfold opsV; simp
    rw [List.length_append, List.length_singleton] at hz fin
    refine iteT (by rw [opsV_app]; simp) <| ts_and_nil <| iteT rfl ?_
    refine ex_cons <| ex_assign_tup (ns := ["word", "name"]) (o := none) rfl rfl (by decide) (by rfl) (.inl rfl) <| lst_pop rfl <| ev_cell rfl t1 ⟨o, opsV ops0, .tup [.str wd, .str nm], rfl, tO', by lia, ⟨_, rfl, rfl, ?_⟩⟩
    rw [if_pos rfl]
    have t2' : upd τ o (.lst (opsV ops0)) (L + 2) = some (.cell (.int rest)) := (upd_ne _ _ ho2.symm).trans t2
    refine ex_cons <| ex_return <| ev_cat <| ev_list <| evs_cons <| ev_strC (by kernel_rfl) <| evs_nil ⟨by first | exact Nat.le_of_ble_eq_true rfl | simp, .inl <| ev_ifexp <| TsW.mono (Q := fun b σ' => (b = true → nm ≠ "") ∧ σ' = upd τ o (.lst (opsV ops0))) ?_ fun b σ' ⟨h1, h2⟩ => ?_⟩
    · refine ts_and <| ts_cmp <| ev_local rfl <| ev_strC (by kernel_rfl) ⟨_, cmp_strn _ _, iteB (fun q => ?_) fun q => ⟨fun z => (nomatch z), rfl⟩⟩
      refine ts_and <| ts_cmp <| ev_bin <| ev_cell rfl t2' <| ev_int ⟨_, .mod _ _ (by decide), ev_int ⟨_, cmp_int _ _, iteB (fun q2 => ts_and_nil ⟨fun _ => by simpa using q, rfl⟩) fun q2 => ⟨fun z => (nomatch z), rfl⟩⟩⟩
    rw [h2]
    refine iteB (fun hb => ?_) fun hb => ?_
    · refine ev_list <| evs_cons <| ev_local rfl <| evs_nil ⟨by first | exact Nat.le_of_ble_eq_true rfl | simp, .inl ⟨_, _, rfl, rfl, by simp, .inl ?_⟩⟩
      refine fin _ ["end", nm] _ rfl (fun t ht => ?_) (by simp) hok0 (by first | decide | (refine Nat.le_trans (by assumption) ?_; exact Nat.le_of_ble_eq_true rfl) | lia)
      simp only [List.mem_cons, List.not_mem_nil, or_false] at ht
      rcases ht with rfl | rfl
      · exact g1.1
      · exact name_good hnm' (h1 hb)
    · refine ev_list <| evs_nil ⟨by first | exact Nat.le_of_ble_eq_true rfl | simp, .inl ⟨_, _, rfl, rfl, by simp, .inl ?_⟩⟩
      exact fin _ ["end"] _ rfl (fun t ht => by simp at ht; subst ht; exact g1.1) (by simp) hok0 (by first | decide | (refine Nat.le_trans (by assumption) ?_; exact Nat.le_of_ble_eq_true rfl) | lia)
  rintro loc' σ' ⟨rfl, l1, l2, l3⟩
  refine ex_cut (fun loc2 σ2 => σ2 = σ' ∧ loc2.lookup ("what" : Str) = some (.val (.int w)) ∧ loc2.lookup ("opened" : Str) = some (.cell (L + 1)) ∧ loc2.lookup ("rest" : Str) = some (.cell (L + 2))) ?_ ?_
  · refine ex_if <| ts_and <| ts_cmp <| ev_local l1 <| ev_int ⟨_, cmp_int _ _, iteB (fun h => ?_) fun h => iteF rfl <| ex_nil ⟨rfl, l1, l2, l3⟩⟩
    refine ts_and <| ts_ne_nil <| ev_cell l2 t1 <| ev_list <| evs_nil ⟨by first | exact Nat.le_of_ble_eq_true rfl | simp, .inl ⟨opsV ops, lk_ref tO, rfl, ?_⟩⟩
    rcases List.eq_nil_or_concat ops with rfl | ⟨ops0, p, hp⟩
    · exact iteF rfl <| iteF rfl <| ex_nil ⟨rfl, l1, l2, l3⟩
    rw [List.concat_eq_append] at hp
    subst hp
    obtain ⟨wd, nm⟩ := p
    have hnm' : nm ∈ namesL := hok (wd, nm) (by simp)
    have lkO : Item σ' (.ref o) (.int (-1)) (.tup [.str wd, .str nm]) := .lst _ _ _ _ (lk_ref tO) (by first | decide | (refine Nat.le_trans (by assumption) ?_; exact Nat.le_of_ble_eq_true rfl) | lia) (ixAt_last (by rw [opsV_app]; simp))
    have i0 : Item σ' (.tup [.str wd, .str nm]) (.int ((0 : Nat) : Int)) (.str wd) := .tup _ _ _ (by first | decide | (refine Nat.le_trans (by assumption) ?_; exact Nat.le_of_ble_eq_true rfl) | lia) (ixAt_nat rfl)
    have i1 : Item σ' (.tup [.str wd, .str nm]) (.int ((1 : Nat) : Int)) (.str nm) := .tup _ _ _ (by first | decide | (refine Nat.le_trans (by assumption) ?_; exact Nat.le_of_ble_eq_true rfl) | lia) (ixAt_nat rfl)
    refine iteT (by rw [opsV_app]; simp) <| ts_and <| ts_cmp <| ev_sub <| ev_sub <| ev_cell l2 t1 <| ev_neg <| ev_int ⟨1, rfl, _, lkO, ev_int ⟨_, i0, ev_strC (by kernel_rfl) ⟨_, cmp_str _ _, iteB (fun hif => ?_) fun hif => iteF rfl <| ex_nil ⟨rfl, l1, l2, l3⟩⟩⟩⟩
    refine ts_and_nil <| iteT rfl ?_
    refine ex_cons <| ex_return <| ev_cat <| ev_list <| evs_cons <| ev_strC (by kernel_rfl) <| evs_nil ⟨by first | exact Nat.le_of_ble_eq_true rfl | simp, .inl <| ev_ifexp <| TsW.mono (Q := fun b σ2 => (b = true → nm ≠ "") ∧ σ2 = σ') ?_ fun b σ2 ⟨h1, h2⟩ => ?_⟩
    · refine ts_and <| ts_cmp <| ev_sub <| ev_sub <| ev_cell l2 t1 <| ev_neg <| ev_int ⟨1, rfl, _, lkO, ev_int ⟨_, i1, ev_strC (by kernel_rfl) ⟨_, cmp_strn _ _, iteB (fun q => ?_) fun q => ⟨fun z => (nomatch z), rfl⟩⟩⟩⟩
      refine ts_and <| ts_cmp <| ev_bin <| ev_cell l3 t2 <| ev_int ⟨_, .mod _ _ (by decide), ev_int ⟨_, cmp_int _ _, iteB (fun q2 => ts_and_nil ⟨fun _ => by simpa using q, rfl⟩) fun q2 => ⟨fun z => (nomatch z), rfl⟩⟩⟩
    rw [h2]
    refine iteB (fun hb => ?_) fun hb => ?_
    · refine ev_list <| evs_cons (ev_sub <| ev_sub <| ev_cell l2 t1 <| ev_neg <| ev_int ⟨1, rfl, _, lkO, ev_int ⟨_, i1, evs_nil ⟨by first | exact Nat.le_of_ble_eq_true rfl | simp, .inl ⟨_, _, rfl, rfl, by simp, .inl ?_⟩⟩⟩⟩)
      refine fin0 _ ["else", nm] rfl (fun t ht => ?_) (by simp)
      simp only [List.mem_cons, List.not_mem_nil, or_false] at ht
      rcases ht with rfl | rfl
      · exact g1.2.1
      · exact name_good hnm' (h1 hb)
    · refine ev_list <| evs_nil ⟨by first | exact Nat.le_of_ble_eq_true rfl | simp, .inl ⟨_, _, rfl, rfl, by simp, .inl ?_⟩⟩
      exact fin0 _ ["else"] rfl (fun t ht => by simp at ht; subst ht; exact g1.2.1) (by simp)
  clear l1 l2 l3 loc'
  rintro loc' σ2 ⟨rfl, l1, l2, l3⟩
  refine ex_cons <| ex_if <| ts_cmp <| ev_local l1 <| ev_int ⟨_, cmp_int _ _, iteB (fun h => ?_) fun h => ex_nil ?_⟩
  · have hm := mod_lt (a := rest) (n := 2) (by first | decide | (refine Nat.le_trans (by assumption) ?_; exact Nat.le_of_ble_eq_true rfl) | lia)
    obtain ⟨b, hb⟩ : ∃ t, (["br", "br_if"] : List Str)[(rest.fmod 2).toNat]? = some t := ⟨_, List.getElem?_eq_getElem hm.1⟩
    have hbg : GoodT b := by
      have := List.mem_of_getElem? hb
      simp only [List.mem_cons, List.not_mem_nil, or_false] at this
      rcases this with e | e
      · rw [e]; exact g1.2.2.1
      · rw [e]; exact g1.2.2.2.1
    refine ex_cons <| ex_return <| ev_list <| evs_cons (ev_sub <| ev_list <| evs_strs (ss := ["br", "br_if"]) rfl (by kernel_rfl) ⟨by first | exact Nat.le_of_ble_eq_true rfl | simp, .inl <| ev_bin <| ev_cell l3 t2 <| ev_int ⟨_, .mod _ _ (by decide), ?_⟩⟩)
    rw [show rest.fmod 2 = ((rest.fmod 2).toNat : Int) from hm.2]
    refine item_str (by decide) hb ?_
    refine evs_cons (gcall (n := 2) (g__law_goal C) (keepF C rfl) rfl (by decide) rfl <| evs_cons (ev_bin <| ev_cell l3 t2 <| ev_int ⟨_, .fdiv _ _ (by decide) (by decide), evs_cons <| ev_cell l2 t1 <| evs_nil <| c_law_goal C tO hok hz <| evs_nil ⟨by first | exact Nat.le_of_ble_eq_true rfl | simp, .inl ?_⟩⟩))
    refine fin0 _ [b, goalT (rest.fdiv 2) ops] rfl (fun t ht => ?_) (by simp)
    simp only [List.mem_cons, List.not_mem_nil, or_false] at ht
    rcases ht with rfl | rfl
    · exact hbg
    · exact goalT_good hok hz
  refine ex_cons <| ex_if <| ts_cmp <| ev_local l1 <| ev_int ⟨_, cmp_int _ _, iteB (fun h => ?_) fun h => ex_nil ?_⟩
  · have hm := mod_lt (a := rest) (n := 3) (by first | decide | (refine Nat.le_trans (by assumption) ?_; exact Nat.le_of_ble_eq_true rfl) | lia)
    have hm2 : rest.fmod 3 = ((rest.fmod 3).toNat : Int) := hm.2
    have e3 : (1 : Int) + rest.fmod 3 = ((1 + (rest.fmod 3).toNat : Nat) : Int) := congrArg (fun z : Int => 1 + z) hm.2
    have hm1 : (rest.fmod 3).toNat < 3 := hm.1
    generalize (rest.fmod 3).toNat = k3 at e3 hm1
    refine ex_cons <| ex_return <| ev_cat <| ev_list <| evs_cons <| ev_strC (by kernel_rfl) <| evs_nil ⟨by first | exact Nat.le_of_ble_eq_true rfl | simp, .inl ?_⟩
    refine ev_comp (cl := [("rest", L + 2), ("opened", L + 1)]) rfl ?_ rfl ?_
    · exact (clOf_skip rfl).trans <| (clOf_skip rfl).trans <| (clOf_skip rfl).trans <| (clOf_free l2).trans <| (clOf_free l3).trans rfl
    refine iter_ev <| bcall (b_range C) rfl (keep_type _) rfl rfl <| evs_cons (ev_bin <| ev_int <| ev_bin <| ev_cell l3 t2 <| ev_int ⟨_, .mod _ _ (by decide), _, .add _ _, ?_⟩)
    rw [e3]
    refine evs_nil <| bi_range ⟨_, .rng _ (by first | decide | (refine Nat.le_trans (by assumption) ?_; exact Nat.le_of_ble_eq_true rfl) | lia), rangeV (1 + k3), (List.range (1 + k3)).map fun k : Nat => V.str (goalT (rest.fdiv ((4 : Int) ^ (k : Int).toNat)) ops), fun _ _ _ => rfl, by unfold rangeV; simp; lia, ?_, .inl ?_⟩
    · refine compL_all (fun k : Nat => V.int k) _ fun k hk => ⟨_, rfl, fun σ3 hE => ?_⟩
      have hk3 : k < 3 := by have := List.mem_range.mp hk; lia
      have hp := two_pow k hk3
      have tO3 : σ3 o = some (.lst (opsV ops)) := by rw [hE o (by rw [tO]; nofun)]; exact tO
      exact gcall (n := 2) (g__law_goal C) (keepF C rfl) rfl (by decide) rfl <| evs_cons (ev_bin <| ev_cell rfl (hE.cell t2) <| ev_bin <| ev_int <| ev_local rfl ⟨_, .pow _ _ (by first | decide | (refine Nat.le_trans (by assumption) ?_; exact Nat.le_of_ble_eq_true rfl) | lia) (by first | decide | (refine Nat.le_trans (by assumption) ?_; exact Nat.le_of_ble_eq_true rfl) | lia) (by decide), _, .fdiv _ _ hp.1 hp.2, evs_cons <| ev_cell rfl (hE.cell t1) <| evs_nil <| c_law_goal C tO3 hok hz ⟨rfl, rfl⟩⟩)
    · refine ⟨_, _, rfl, rfl, by simp; lia, .inl ?_⟩
      refine fin0 _ ("br_table" :: (List.range (1 + k3)).map fun k : Nat => goalT (rest.fdiv ((4 : Int) ^ (k : Int).toNat)) ops) (by simp [Function.comp_def]) (fun t ht => ?_) (by simp; lia)
      rcases List.mem_cons.mp ht with rfl | ht
      · exact g1.2.2.2.2
      · obtain ⟨k, _, rfl⟩ := List.mem_map.mp ht
        exact goalT_good hok hz
  have hm := mod_lt (a := rest) (n := 27) (by first | decide | (refine Nat.le_trans (by assumption) ?_; exact Nat.le_of_ble_eq_true rfl) | lia)
  obtain ⟨b, hb⟩ : ∃ t, (wordsL ++ othersL)[(rest.fmod 27).toNat]? = some t := ⟨_, List.getElem?_eq_getElem hm.1⟩
  have hbg : GoodT b := by
    unfold GoodT allT
    exact List.mem_append_left _ (List.mem_append_left _ (List.mem_of_getElem? hb))
  refine ex_cons <| ex_return <| ev_list <| evs_cons (ev_sub <| gcall (n := 1) (g__law_any C) (keepF C rfl) rfl (by decide) rfl <| evs_nil <| c_law_any C <| ev_bin <| ev_cell l3 t2 <| ev_int ⟨_, .mod _ _ (by decide), ?_⟩)
  rw [show rest.fmod 27 = ((rest.fmod 27).toNat : Int) from hm.2]
  refine item_str (by decide +kernel) hb ?_
  refine evs_nil ⟨by first | exact Nat.le_of_ble_eq_true rfl | simp, .inl ?_⟩
  exact fin0 _ [b] rfl (fun t ht => by simp at ht; subst ht; exact hbg) (by simp)
end
end Mine
end

section
namespace Mine
theorem cutL_map {α β : Type} (f : α → β) (xs : List α) (lo hi : Option Int) : cutL (xs.map f) lo hi = (cutL xs lo hi).map f := by
  unfold cutL; simp [List.map_drop, List.map_take]
theorem cut20 (xs : List Int) : (cutL xs none (some 20)).length ≤ 20 := by
  unfold cutL
  rw [List.length_take]
  refine Nat.le_trans (Nat.min_le_left _ _) (Nat.le_trans (Nat.sub_le _ _) ?_)
  exact Int.toNat_le.mpr (Int.max_le.mpr ⟨by decide, Int.min_le_left _ _⟩)
theorem intsOf_map : ∀ xs : List Int, intsOf (xs.map V.int) = some xs
  | [] => rfl
  | x :: xs => by rw [List.map_cons, intsOf, intsOf_map xs]; rfl
section
variable {G : Gd} {md : Md} {loc : Loc} {σ : Store} {X : Exn → Prop}

inductive TxK (f o : Addr) (xs : List Int) (σ0 : Store) (loc' : Loc) (σ' : Store) : Prop
  | mk (F : List Str) (ops : List (Str × Str)) (hF : σ' f = some (.lst (F.map V.str))) (hO : σ' o = some (.lst (opsV ops))) (M : Mkc σ0 σ') (l1 : loc'.lookup ("found" : Str) = some (.val (.ref f))) (l2 : loc'.lookup ("opened" : Str) = some (.val (.ref o))) (l3 : loc'.lookup ("script" : Str) = some (.val (.lst (xs.map V.int))))
    (hg : ∀ t ∈ F, GoodT t) (hl : F.length ≤ 80) (h2 : ops.length ≤ 20)
inductive TxJ (f o : Addr) (xs : List Int) (σ0 : Store) (as : List Int) (loc' : Loc) (σ' : Store) : Prop
  | mk (F : List Str) (ops : List (Str × Str)) (hF : σ' f = some (.lst (F.map V.str))) (hO : σ' o = some (.lst (opsV ops))) (M : Mkc σ0 σ') (l1 : loc'.lookup ("found" : Str) = some (.val (.ref f))) (l2 : loc'.lookup ("opened" : Str) = some (.val (.ref o))) (l3 : loc'.lookup ("script" : Str) = some (.val (.lst (xs.map V.int))))
    (hg : ∀ t ∈ F, GoodT t) (hl : F.length + 4 * as.length ≤ 80) (hk : OpsOk ops) (h2 : ops.length + as.length ≤ 20)
theorem c_law_texts (C : Cx G) {xs : List Int} {Q : V → Store → Prop} (hz : xs.length ≤ 1000) (hq : ∀ (ts : List Str) σ', (∀ t ∈ ts, GoodT t) → ts.length ≤ 100 → Mkc σ σ' → Q (.lst (ts.map V.str)) σ') : CallW G 4 (.ref 599) [.lst (xs.map V.int)] σ Q X := by
  refine call_fn (n := 3) (fnO (ps := ["script"]) C rfl rfl rfl rfl (bt1 fun _ _ => .of_eq rfl)) (by decide) (by decide) rfl fun L hL => ?_
  refine ex_cons <| ex_assign_tup (ns := ["found", "opened"]) (o := some ["found", "opened"]) rfl rfl (by decide) (by rfl) (.inr rfl) ?_
  refine ev_tuple <| evs_cons <| ev_list <| evs_nil ⟨by first | exact Nat.le_of_ble_eq_true rfl | simp, .inr fun f hf => evs_cons <| ev_list <| evs_nil ⟨by first | exact Nat.le_of_ble_eq_true rfl | simp, .inr fun o ho => evs_nil ⟨by first | exact Nat.le_of_ble_eq_true rfl | simp, _, rfl, rfl, ?_⟩⟩⟩
  rw [if_neg (by simp)]
  have f0 : upd (upd (upd σ L .mark) f (.lst [])) o (.lst []) f = some (.lst []) := upd_out (upd_eq ..) ho
  have o0 : upd (upd (upd σ L .mark) f (.lst [])) o (.lst []) o = some (.lst []) := upd_eq ..
  have hfo : f ≠ o := ne_of (upd_eq ..) ho
  have M0 : Mkc (upd σ L .mark) (upd (upd (upd σ L .mark) f (.lst [])) o (.lst [])) := (Mkc.new hf).trans (.new ho)
  generalize upd (upd (upd σ L .mark) f (.lst [])) o (.lst []) = τ at f0 o0 M0 ⊢
  refine ex_cut (TxK f o xs (upd σ L .mark)) ?_ ?_
  · refine ex_for rfl (by decide) <| iter_ev <| ev_cut <| ev_local rfl <| ev_int ⟨_, rfl, .inl ⟨_, rfl, by simp; lia, .inl ⟨_, by rw [cutL_map]; exact .lst _, forL_n ?_⟩⟩⟩
    refine forL_ind (f := V.int) (TxJ f o xs (upd σ L .mark)) ?_ ?_ (cutL xs none (some 20)) _ _ ⟨[], [], f0, o0, M0, rfl, rfl, rfl, fun t ht => (nomatch ht), by have := cut20 xs; rw [List.length_nil]; lia, fun p hp => (nomatch hp), by have := cut20 xs; rw [List.length_nil]; lia⟩
    · rintro x as loc' σ' ⟨F, ops, hF, hO, M, l1, l2, l3, hg, hl, hok, hl2⟩
      rw [List.length_cons] at hl hl2
      refine ⟨_, rfl, ?_⟩
      refine ex_cons <| ex_expr <| ev_method rfl <| ev_local l1 ⟨.builtin "list.extend", _, 0, .blt "list" "list.extend" (by unfold typeName; rw [lk_ref hF]) PySem.F.plainAttrs_list PySem.F.slot_list_extend (by kernel_rfl), keep_builtin _, Nat.zero_le _, ?_⟩
      refine evs_cons (gcall (n := 3) (g__law_step C) (keepF C rfl) rfl (by decide) rfl <| evs_cons <| ev_local rfl <| evs_cons <| ev_local l2 <| evs_nil <| c_law_step C hO hok (by first | decide | (refine Nat.le_trans (by assumption) ?_; exact Nat.le_of_ble_eq_true rfl) | lia) fun l ops' h1 h2 h3 h4 => evs_nil ?_)
      have hF' : upd σ' o (.lst (opsV ops')) f = some (.lst (F.map V.str)) := (upd_ne _ _ hfo).trans hF
      refine m_extend hF' rfl (by simp; lia) <| ex_nil ⟨F ++ l, ops', by rw [upd_eq, List.map_append], (upd_ne _ _ hfo.symm).trans (upd_eq ..), M.trans ((Mkc.put hO (by nofun)).trans (.put hF' (by nofun))), l1, l2, l3, fun t ht => ?_, by rw [List.length_append]; lia, h3, by lia⟩
      rcases List.mem_append.mp ht with q | q
      · exact hg t q
      · exact h1 t q
    · rintro loc' σ' ⟨F, ops, hF, hO, M, l1, l2, l3, hg, hl, hok, hl2⟩
      exact ⟨F, ops, hF, hO, M, l1, l2, l3, hg, by lia, by lia⟩
  rintro loc' σ' ⟨F, ops, hF, hO, M, l1, l2, l3, hg, hl, hl2⟩
  have fin : ∀ n : Nat, n ≤ 20 → Q (.lst (F.map V.str ++ (List.replicate n [V.str "end"]).flatten)) (era σ' L) := fun n hn => by
    have e : F.map V.str ++ (List.replicate n [V.str "end"]).flatten = (F ++ List.replicate n ("end" : Str)).map V.str := by
      rw [List.map_append, List.map_replicate]
      congr 1
      induction n with
      | zero => rfl
      | succ n ih => rw [List.replicate_succ, List.flatten_cons, ih (by first | decide | (refine Nat.le_trans (by assumption) ?_; exact Nat.le_of_ble_eq_true rfl) | lia), List.replicate_succ]; rfl
    rw [e]
    refine hq _ _ (fun t ht => ?_) (by rw [List.length_append, List.length_replicate]; lia) (M.leave hL)
    rcases List.mem_append.mp ht with q | q
    · exact hg t q
    · rw [List.eq_of_mem_replicate q]; decide +kernel
  have hol : (opsV ops).length = ops.length := by unfold opsV; simp
  refine ex_cons <| ex_return <| ev_cat <| ev_local l1 <| ev_rep <| ev_list <| evs_cons <| ev_strC (by kernel_rfl) <| evs_nil ⟨by first | exact Nat.le_of_ble_eq_true rfl | simp, .inl ?_⟩
  refine ev_ifexp <| ts_cmp <| ev_bin <| bcall (b_sum C) rfl (keep_builtin _) rfl rfl <| evs_cons <| ev_local l3 <| evs_nil <| bi_sum rfl (intsOf_map xs) <| ev_int ⟨_, .mod _ _ (by decide), ev_int ⟨decide (0 < xs.sum.fmod 4), rfl, iteB (fun h => ?_) fun h => ?_⟩⟩
  · refine bcall (b_len C) rfl (keep_builtin _) rfl rfl <| evs_cons <| ev_local l2 <| evs_nil <| bi_len (n := ops.length) (by unfold lenV; rw [lk_ref hO]; exact congrArg some hol) (by first | decide | (refine Nat.le_trans (by assumption) ?_; exact Nat.le_of_ble_eq_true rfl) | lia) ⟨_, _, rfl, rfl, by lia, by lia, by simp; lia, .inl ⟨_, _, lk_ref hF, rfl, by simp; lia, .inl ?_⟩⟩
    exact fin ops.length hl2
  · refine ev_int ⟨_, _, rfl, rfl, by lia, by lia, by simp, .inl ⟨_, _, lk_ref hF, rfl, by simp; lia, .inl ?_⟩⟩
    exact fin 0 (by first | decide | (refine Nat.le_trans (by assumption) ?_; exact Nat.le_of_ble_eq_true rfl) | lia)
end
end Mine
end

section
namespace Mine
/-- a call from the top -/
noncomputable def CallT (G : Gd) (n : Nat) (f : Value) (args : List V) (σ : Store) (Q : V → Store → Prop) : Prop :=
  ∀ (A : Around) (s : Shared) (vals : List Value) (R : Result → Shared → Prop), G.Ok → A.frames = some [] → A.handled = none → A.depth + n ≤ 900 → A.units + 20 * n + 200 ≤ cLine → G.base.StaysIn s.heap → (∀ b o, G.base.get? b = some o → σ b = none) → Sim G.P σ s.heap →
    RelVs G.P σ s.heap args vals → (∀ w s', EQ G σ Q s w s' → R (.ok (.ret w)) s') → codeAny G.M A (.call f ⟨vals, []⟩) R s
theorem call_fnT {G : Gd} {n : Nat} {f : Addr} {ps : List Str} {body : List Stmt} {names : List (Str × NameKind)} {o : Obj} {fd : FuncData} {args : List V} {σ : Store} {Q : V → Store → Prop}
    (F : FnAt G f ps body names o fd) (hc : ∀ x ∈ names, x.2 ≠ .cell) (hl : ∀ p ∈ ps, names.lookup p = some .local) (hn : ps.length = args.length)
    (h : ∀ L, σ L = none → ExW G ⟨n, none, names⟩ body (ps.zip (args.map .val)) (upd σ L .mark) (FnQ Q L) (fun _ => False)) :
    CallT G (n + 1) (.ref f) args σ Q := by
  intro A s vals R ok fr hha hdp hun stays bdom sim hr hR
  have hbd := F.binds s vals (by rw [hn]; exact hr.length) stays
  have hroom : A.depth < recursionLimit := dep0 hdp
  refine (codeAny_call_def hroom (stays _ _ F.1) F.2 (ok.top.nolimit.keeps stays) (F.5.keeps stays) F.3 hbd (by rw [F.4]; exact hc) (by rw [F.4]; exact mem_lookup_zip hl) (fun h₀ hns hk => ?_) F.7 F.8 F.6)
  have hL := free_size s.heap
  have S1 := fn_enter (n := n) (tk := s.toks + (ps.zip vals).length) F hl ok hha (dep1 (Nat.le_refl _) hdp) (dep2 (Nat.le_refl _) hun) fr trivial (fun b hb => nomatch hb) stays bdom sim hL hns hk hr hn
  refine wpAny_mono (h _ (fresh_st sim hL) _ _ _ _ S1) (fun fl s' q => ?_) fun e s' q => by obtain ⟨x, hx, _⟩ := q; exact hx.elim
  have z := fn_out hL hk q rfl
  cases fl <;> first | exact hR _ _ z | exact z.elim
noncomputable def exnOf (w : Str) (p : Int) : Exn := if 0 ≤ p then xBT w (1 + p.fdiv 7) (1 + p.fmod 7) else xLO w (1 + (-1 - p).fdiv 7)
noncomputable def convR : Except (Str × Int) (List V) → Except Exn (List V)
  | .ok B => .ok B
  | .error w => .error (exnOf w.1 w.2)
noncomputable def IvOk (v : V) : Prop := ∃ ns : List Int, v = .tup (ns.map V.int)
structure PureOk (ts : List Str) : Prop where
  txt : ∀ t ∈ ts, Txt0 t
  tk : ∀ x ∈ itemsT ts, TkOk x
  run : ∃ k k' res, dueAll ts k 0 [] [] = some res ∧ runAll (itemsT ts) k' 0 [] [] = some (convR res) ∧ ∀ B, res = .ok B → ∀ v ∈ B, IvOk v
theorem toPys_ints : ∀ ns : List Int, toPys (ns.map V.int) = some (ns.map PyData.int)
  | [] => rfl
  | n :: ns => by rw [List.map_cons, toPys_c, toPys_ints ns]; rfl
theorem depth_ints : ∀ ns : List Int, PyData.depthAll (ns.map PyData.int) = 0
  | [] => rfl
  | n :: ns => by rw [List.map_cons, PyData.depthAll, depth_ints ns]; rfl
theorem lay_ints : ∀ ns : List Int, PyData.canLayAll0 (ns.map PyData.int) = true
  | [] => rfl
  | n :: ns => by rw [List.map_cons, PyData.canLayAll0, lay_ints ns]; rfl
theorem toPys_ivs : ∀ {B : List V}, (∀ v ∈ B, IvOk v) → ∃ ds, toPys B = some ds ∧ PyData.depthAll ds ≤ 1 ∧ PyData.canLayAll0 ds = true
  | [], _ => ⟨[], rfl, by decide, rfl⟩
  | v :: B, h => by
    obtain ⟨ds, h1, h2, h3⟩ := toPys_ivs (B := B) fun x hx => h x (List.mem_cons_of_mem _ hx)
    obtain ⟨ns, rfl⟩ := h v (List.mem_cons_self ..)
    refine ⟨.tuple (ns.map PyData.int) :: ds, ?_, ?_, ?_⟩
    · rw [toPys_c, h1, toPy_tup, toPys_ints]; rfl
    · rw [PyData.depthAll, PyData.depth, depth_ints]; lia
    · rw [PyData.canLayAll0, h3, PyData.canLay0, lay_ints]; rfl
theorem eq_ivs {σ : Store} {b : Addr} {B : List V} (hB : ∀ v ∈ B, IvOk v) (hb : σ b = some (.lst B)) : eqV σ (.ref b) (.lst B) = some true := by
  obtain ⟨ds, h1, h2, h3⟩ := toPys_ivs hB
  have e1 : pyOf σ (.ref b) = some (.list ds) := by unfold pyOf; rw [lk_ref hb]; show (toPys B).map _ = _; rw [h1]; rfl
  have e2 : pyOf σ (.lst B) = some (.list ds) := by show (toPys B).map _ = _; rw [h1]; rfl
  have hd : (PyData.list ds).depth ≤ 64 := by rw [PyData.depth]; lia
  rw [eqV_of e1 e2 hd hd, SeqAt.eqv_refl _ (show (PyData.list ds).canLay0 = true by rw [PyData.canLay0]; exact h3)]
theorem eq_si {σ : Store} (a : Str) (b : Int) : eqV σ (.tup [.str a, .int b]) (.tup [.str a, .int b]) = some true :=
  (eqV_of (σ := σ) (a := .tup [.str a, .int b]) (b := .tup [.str a, .int b]) (x := .tuple [.str a, .int b]) (y := .tuple [.str a, .int b]) rfl rfl (by simp [PyData.depth, PyData.depthAll]) (by simp [PyData.depth, PyData.depthAll])).trans (by simp [PyData.eqv, PyData.eqvAll])
theorem eq_sii {σ : Store} (a : Str) (b c : Int) : eqV σ (.tup [.str a, .int b, .int c]) (.tup [.str a, .int b, .int c]) = some true :=
  (eqV_of (σ := σ) (a := .tup [.str a, .int b, .int c]) (b := .tup [.str a, .int b, .int c]) (x := .tuple [.str a, .int b, .int c]) (y := .tuple [.str a, .int b, .int c]) rfl rfl (by simp [PyData.depth, PyData.depthAll]) (by simp [PyData.depth, PyData.depthAll])).trans (by simp [PyData.eqv, PyData.eqvAll])
theorem enum_strs (ts : List Str) : enumV (ts.map V.str) = (ts.mapIdx fun i t => (i, t)).map fun p : Nat × Str => V.tup [.int p.1, .str p.2] := by
  unfold enumV
  refine List.ext_getElem? fun i => ?_
  simp only [List.getElem?_mapIdx, List.getElem?_map]
  cases ts[i]? <;> rfl
theorem itemsT_map (ts : List Str) : (ts.mapIdx fun i t => (i, t)).map (fun p : Nat × Str => itV (tkT p.2 p.1)) = itVs (itemsT ts) := by
  rw [itVs_map]
  unfold itemsT
  refine List.ext_getElem? fun i => ?_
  simp only [List.getElem?_mapIdx, List.getElem?_map]
  cases ts[i]? <;> rfl
section
variable {G : Gd} {md : Md} {loc : Loc} {σ : Store} {X : Exn → Prop}

theorem c_law (C : Cx G) {xs : List Int} {Q : V → Store → Prop} (hz : xs.length ≤ 1000) (hc : ∀ b v, σ b ≠ some (.cell v)) (hp : ∀ ts : List Str, (∀ t ∈ ts, GoodT t) → ts.length ≤ 100 → PureOk ts) (hq : ∀ σ', Q (.bool true) σ') : CallT G 18 (.ref 642) [.lst (xs.map V.int)] σ Q := by
  refine call_fnT (n := 17) (fnO (ps := ["script"]) C rfl rfl rfl rfl (bt1 fun _ _ => .of_eq rfl)) (by decide) (by decide) rfl fun L hL => ?_
  refine ex_cons <| ex_assign (by rfl) <| gcall (n := 4) (g__law_texts C) (keepF C rfl) rfl (by decide) rfl <| evs_cons (EvW.mono (Q := fun v σ' => ∃ ys : List Int, v = .lst (ys.map V.int) ∧ ys.length ≤ 1000 ∧ σ' = upd σ L .mark) ?_ (fun v σ' ⟨ys, h1, h2, h3⟩ => ?_) fun _ z => z)
  · refine ev_ifexp <| ts_ne_nil <| ev_local rfl <| ev_list <| evs_nil ⟨by first | exact Nat.le_of_ble_eq_true rfl | simp, .inl ⟨_, rfl, rfl, iteB (fun h => ?_) fun h => ?_⟩⟩
    · exact ev_local rfl ⟨xs, rfl, hz, rfl⟩
    · exact ev_list <| evs_cons <| ev_int <| evs_cons <| ev_int <| evs_cons <| ev_int <| evs_cons <| ev_int <| evs_cons <| ev_int <| evs_cons <| ev_int <| evs_cons <| ev_int <| evs_nil ⟨by first | exact Nat.le_of_ble_eq_true rfl | simp, .inl ⟨[9, 17, 13, 37, 8, 3, 3], rfl, by simp, rfl⟩⟩
  rw [h1, h3]
  refine evs_nil <| c_law_texts C h2 fun ts σ1 hg hl M1 => ?_
  obtain ⟨htxt, htk, k, k', res, hd, hr, hiv⟩ := hp ts hg hl
  have hB : ∃ a b, dueV res = .tup [a, b] := by cases res <;> exact ⟨_, _, rfl⟩
  refine ex_cons <| ex_assign_tup (ns := ["body", "wrong"]) (o := none) rfl rfl (by decide) (by rfl) (.inl rfl) <| gcall (n := 6) (g__law_due C) (keepF C rfl) rfl (by decide) rfl <| evs_cons <| ev_local rfl <| evs_nil <| c_law_due C htxt (by first | decide | (refine Nat.le_trans (by assumption) ?_; exact Nat.le_of_ble_eq_true rfl) | lia) hd fun σ2 M2 => ?_
  obtain ⟨a, b, hab⟩ := hB
  refine ⟨[a, b], hab, rfl, ?_⟩
  rw [if_pos rfl]
  have M3 := M1.trans M2
  have hc2 : ∀ b v, σ2 b ≠ some (.cell v) := fun b v e => by
    have := M3.nc b v e
    by_cases hbL : b = L
    · subst hbL; rw [upd_eq] at this; cases this
    · rw [upd_ne _ _ hbL] at this; exact hc b v this
  have hlen : (itemsT ts).length = ts.length := by unfold itemsT; simp
  refine ex_cons <| ex_try (X0 := fun x => ∃ w, res = .error w ∧ x = exnOf w.1 w.2) rfl rfl hc2 ?_ fun x ⟨w, hw, hx⟩ => ?_
  · refine gcall (n := 16) (g_read_body C) (keepF C rfl) rfl (by decide) rfl <| evs_cons <| ev_none <| evs_cons <| ev_dict0 ?_
    refine evs_cons (ev_comp (cl := []) rfl ?_ rfl <| iter_enum (ev_builtin (b_enumerate C) rfl ⟨rfl, rfl⟩) <| ev_local rfl ⟨_, rfl, enumV (ts.map V.str), itVs (itemsT ts), fun _ _ _ => rfl, ?_, ?_, .inl ?_⟩)
    · exact (clOf_skip rfl).trans <| (clOf_skip rfl).trans <| (clOf_skip rfl).trans <| (clOf_skip rfl).trans rfl
    · unfold enumV; simp; lia
    · rw [enum_strs, ← itemsT_map]
      refine compL_all (fun p : Nat × Str => V.tup [.int p.1, .str p.2]) _ fun p hp => ⟨_, rfl, fun σ3 hE => ?_⟩
      have hpt : p.2 ∈ ts := by
        obtain ⟨i, hi⟩ := List.getElem?_of_mem hp
        rw [List.getElem?_mapIdx] at hi
        obtain ⟨t, ht, rfl⟩ := Option.map_eq_some_iff.mp hi
        exact List.mem_of_getElem? ht
      exact gcall (n := 3) (g__law_token C) (keepF C rfl) rfl (by decide) rfl <| evs_cons <| ev_local rfl <| evs_cons <| ev_local rfl <| evs_nil <| c_law_token C (htxt _ hpt) ⟨rfl, rfl⟩
    refine evs_nil <| c_read C (by first | decide | (refine Nat.le_trans (by assumption) ?_; exact Nat.le_of_ble_eq_true rfl) | lia) htk hr (fun B' hB' σ3 bb hbb M => ?_) fun e he => ?_
    · cases res with
      | error w => cases hB'
      | ok B =>
        cases hB'
        cases hab
        refine ex_cons <| ex_return <| ev_cmp <| ev_local rfl <| ev_local rfl ⟨true, eq_ivs (fun v hv => ?_) hbb, hq _⟩
        rcases List.mem_append.mp hv with q | q
        · exact hiv _ rfl v q
        · simp at q; subst q; exact ⟨[11], rfl⟩
    · cases res with
      | ok B => cases he
      | error w => cases he; exact ⟨w, rfl, rfl⟩
  · subst hx
    rw [hw] at hab
    cases hab
    have i1 : Item (marks σ2) (wrongV w) (.int ((1 : Nat) : Int)) (.int w.2) := .tup _ _ _ (by first | decide | (refine Nat.le_trans (by assumption) ?_; exact Nat.le_of_ble_eq_true rfl) | lia) (ixAt_nat rfl)
    have i0 : Item (marks σ2) (wrongV w) (.int ((0 : Nat) : Int)) (.str w.1) := .tup _ _ _ (by first | decide | (refine Nat.le_trans (by assumption) ?_; exact Nat.le_of_ble_eq_true rfl) | lia) (ixAt_nat rfl)
    unfold exnOf
    by_cases hp0 : 0 ≤ w.2
    · rw [if_pos hp0]
      refine ⟨⟨_, _, e_BT C⟩, 157, true, fun hd => ev_global (g_BadText C) rfl ⟨rfl, rfl⟩, ⟨_, _, e_BT C⟩, ⟨_, C.k, by kernel_rfl⟩, iteT rfl ⟨rfl, fun hd => ?_⟩⟩
      refine ex_cons <| ex_return <| ev_and <| ev_cmp <| ev_local rfl <| ev_none ⟨true, rfl, _, rfl, iteT rfl ?_⟩
      refine ev_and <| ev_cmp <| ev_sub <| ev_local rfl <| ev_int ⟨_, i1, ev_int ⟨decide (0 ≤ w.2), rfl, _, rfl, iteT (by first | exact decide_eq_true (by assumption) | exact decide_eq_false (by assumption) | exact ndF (by assumption) | exact ndT (by assumption)) ?_⟩⟩
      refine ev_bool_one <| ev_cmp <| ev_tuple <| evs_cons (ev_attr_exc <| ev_local rfl ⟨_, _, _, _, _, _, rfl, e_BT C, by decide, rfl, rfl, ?_⟩)
      refine evs_cons (ev_attr_exc <| ev_local rfl ⟨_, _, _, _, _, _, rfl, e_BT C, by decide, rfl, rfl, ?_⟩)
      refine evs_cons (ev_attr_exc <| ev_local rfl ⟨_, _, _, _, _, _, rfl, e_BT C, by decide, rfl, rfl, evs_nil ⟨by first | exact Nat.le_of_ble_eq_true rfl | simp, ?_⟩⟩)
      refine ev_tuple <| evs_cons (ev_sub <| ev_local rfl <| ev_int ⟨_, i0, ?_⟩)
      refine evs_cons (ev_bin <| ev_int <| ev_bin <| ev_sub <| ev_local rfl <| ev_int ⟨_, i1, ev_int ⟨_, .fdiv _ _ (by decide) (by decide), _, .add _ _, ?_⟩⟩)
      refine evs_cons (ev_bin <| ev_int <| ev_bin <| ev_sub <| ev_local rfl <| ev_int ⟨_, i1, ev_int ⟨_, .mod _ _ (by decide), _, .add _ _, evs_nil ⟨by first | exact Nat.le_of_ble_eq_true rfl | simp, true, eq_sii (σ := marks σ2) _ _ _, _, rfl, hq _⟩⟩⟩)
    · rw [if_neg hp0]
      refine ⟨⟨_, _, e_LO C⟩, 157, false, fun hd => ev_global (g_BadText C) rfl ⟨rfl, rfl⟩, ⟨_, _, e_BT C⟩, ⟨_, C.k, by kernel_rfl⟩, iteF rfl ?_⟩
      refine ⟨176, true, fun hd => ev_global (g_LeftOut C) rfl ⟨rfl, rfl⟩, ⟨_, _, e_LO C⟩, ⟨_, C.k, by kernel_rfl⟩, iteT rfl ⟨rfl, fun hd => ?_⟩⟩
      refine ex_cons <| ex_return <| ev_and <| ev_cmp <| ev_local rfl <| ev_none ⟨true, rfl, _, rfl, iteT rfl ?_⟩
      refine ev_and <| ev_cmp <| ev_sub <| ev_local rfl <| ev_int ⟨_, i1, ev_int ⟨decide (w.2 < 0), rfl, _, rfl, iteT (by simp; lia) ?_⟩⟩
      refine ev_bool_one <| ev_cmp <| ev_tuple <| evs_cons (ev_attr_exc <| ev_local rfl ⟨_, _, _, _, _, _, rfl, e_LO C, by decide, rfl, rfl, ?_⟩)
      refine evs_cons (ev_attr_exc <| ev_local rfl ⟨_, _, _, _, _, _, rfl, e_LO C, by decide, rfl, rfl, evs_nil ⟨by first | exact Nat.le_of_ble_eq_true rfl | simp, ?_⟩⟩)
      refine ev_tuple <| evs_cons (ev_sub <| ev_local rfl <| ev_int ⟨_, i0, ?_⟩)
      refine evs_cons (ev_bin <| ev_int <| ev_bin <| ev_bin <| ev_neg <| ev_int ⟨1, rfl, ev_sub <| ev_local rfl <| ev_int ⟨_, i1, _, .sub _ _, ev_int ⟨_, .fdiv _ _ (by decide) (by decide), _, .add _ _, evs_nil ⟨by first | exact Nat.le_of_ble_eq_true rfl | simp, true, eq_si (σ := marks σ2) _ _, _, rfl, hq _⟩⟩⟩⟩)
end
end Mine
end

section
namespace Mine
noncomputable def txtB (t : Str) : Bool := decide (t.length ≤ 20) && fitB t && (t.cps.toList[(0 : Nat)]?).isSome && (!decide (sortT t = "int") || (PySem.intText? t).isSome) && (!decide (sortT t = "word") || (blockL.any (· == t) || formOk t))
theorem txtAll : allT.all txtB = true := by decide +kernel
theorem txt_of {t : Str} (h : GoodT t) : Txt0 t ∧ (sortT t = "word" → blockL.any (· == t) = false → formOk t = true) := by
  have := List.all_eq_true.mp txtAll t h
  unfold txtB at this
  simp only [Bool.and_eq_true, decide_eq_true_eq, Bool.or_eq_true, Bool.not_eq_true', decide_eq_false_iff_not] at this
  obtain ⟨⟨⟨⟨h1, h2⟩, h3⟩, h4⟩, h5⟩ := this
  refine ⟨⟨h1, fit_of h2, Option.isSome_iff_exists.mp h3, fun q => ?_⟩, fun q q2 => ?_⟩
  · rcases h4 with h4 | h4
    · exact absurd q h4
    · obtain ⟨n, hn⟩ := Option.isSome_iff_exists.mp h4
      unfold intT; rw [hn]; rfl
  · rcases h5 with h5 | h5
    · exact absurd q h5
    · rcases h5 with h5 | h5
      · rw [h5] at q2; cases q2
      · exact h5
theorem tk_ok {t : Str} (h : GoodT t) (p : Nat) : TkOk (tkT t p) := by
  obtain ⟨h1, h2⟩ := txt_of h
  refine ⟨_, _, _, _, _, rfl, ⟨Nat.le_trans h1.len (by decide), fun q => ?_⟩, h2⟩
  obtain ⟨c, hc⟩ := h1.hd
  exact ⟨intT t, c, by unfold valT; rw [if_pos q], hc⟩
theorem items_get {ts : List Str} {i : Nat} : (itemsT ts)[i]? = (ts[i]?).map fun t => tkT t i := by unfold itemsT; rw [List.getElem?_mapIdx]
theorem items_len (ts : List Str) : (itemsT ts).length = ts.length := by unfold itemsT; simp
theorem row_nn (p : Nat) : exnOf w (p : Int) = xBT w (rowOf p) (colOf p) := by unfold exnOf; rw [if_pos (by first | decide | (refine Nat.le_trans (by assumption) ?_; exact Nat.le_of_ble_eq_true rfl) | lia)]; rfl
noncomputable def toLb (p : Ob) : Lb := ⟨p.name, p.word, tkT p.word p.place, p.els⟩
/-- what the texts are -/
noncomputable def w0 (t : Str) : Bool := decide (sortT t = "word")
noncomputable def bB (t : Str) : Bool := (["block", "loop", "if"] : List Str).any (· == t)
noncomputable def eB (t : Str) : Bool := (["end", "else"] : List Str).any (· == t)
noncomputable def brB (t : Str) : Bool := (["br", "br_if", "br_table"] : List Str).any (· == t)
noncomputable def gB (t : Str) : Option V := getF plainKs (plainIs.map V.int) t
noncomputable def formS (t : Str) : Str := match codeO t with
  | some c => strOfV (formV c)
  | none => ""
noncomputable def clsB (t : Str) : Bool :=
  (w0 t && bB t && decide (codeO t = some (2 + blIx t)))
  || (w0 t && !bB t && eB t && (["else", "end"] : List Str).any (· == t) && (decide (t = "end") || decide (t = "else")))
  || (w0 t && !bB t && !eB t && !(["else", "end"] : List Str).any (· == t) && brB t && !decide (t = "select") && !owB t && decide (codeO t = some (12 + brIx t)) && !plainF.any (· == formS t) && decide (formS t = if t = "br_table" then ("labels" : Str) else ("label" : Str)))
  || (w0 t && !bB t && !eB t && !(["else", "end"] : List Str).any (· == t) && !brB t && decide (t = "select") && decide ((gB t).map intOfV = some 27))
  || (w0 t && !bB t && !eB t && !(["else", "end"] : List Str).any (· == t) && !brB t && !decide (t = "select") && !owB t && (codeO t).isSome && decide ((gB t).map intOfV = codeO t) && plainF.any (· == formS t))
  || (w0 t && !bB t && !eB t && !(["else", "end"] : List Str).any (· == t) && !brB t && !decide (t = "select") && !owB t && decide (codeO t = none) && (gB t).isNone && decide (t = "f64.add") && leftB t)
  || (w0 t && !bB t && !eB t && !(["else", "end"] : List Str).any (· == t) && !brB t && !decide (t = "select") && !owB t && decide (codeO t = none) && (gB t).isNone && decide (t = "i32.nand") && !leftB t)
  || (w0 t && !bB t && !eB t && !(["else", "end"] : List Str).any (· == t) && !brB t && !decide (t = "select") && owB t && (gB t).isNone && !decide (t = "f64.add") && !decide (t = "i32.nand"))
  || (!w0 t && !bB t && !eB t && !brB t && (gB t).isNone && !decide (t = "f64.add") && !decide (t = "i32.nand"))
theorem clsAll : allT.all clsB = true := by decide +kernel
noncomputable def idB (t : Str) : Bool := decide (dol t = decide (sortT t = "id")) && (!dol t || (decide (nl t = 1) && !decide (t = ""))) && (decide (sortT t = "word") || decide (sortT t = "reserved") || decide (sortT t = "id") || decide (sortT t = "int"))
theorem idAll : allT.all idB = true := by decide +kernel
end Mine
end

section
namespace Mine
noncomputable def convS : Except (Str × Int) (Nat × V × List Ob) → Except Exn (Nat × V × List Lb)
  | .ok r => .ok (r.1, r.2.1, r.2.2.map toLb)
  | .error w => .error (exnOf w.1 w.2)
noncomputable def convL : Except (Str × Int) Int → Except Exn Int
  | .ok n => .ok n
  | .error w => .error (exnOf w.1 w.2)
theorem refW {why s : Str} (h : ¬ (why = "unexpected token" ∧ s = "reserved")) : refWhy why s = why := if_neg h
section
variable {ts : List Str} (hg : ∀ t ∈ ts, GoodT t)
include hg
theorem good_at {i : Nat} {t : Str} (h : ts[i]? = some t) : GoodT t := hg t (List.mem_of_getElem? h)
theorem id_items (i : Nat) : idAt (itemsT ts) i = (ts[i]?).bind fun t => if dol t = true then some t else none := by
  unfold idAt
  rw [items_get]
  cases h : ts[i]? with
  | none => rfl
  | some t =>
    have hd := List.all_eq_true.mp idAll t (good_at hg h)
    unfold idB at hd
    simp only [Bool.and_eq_true, decide_eq_true_eq] at hd
    show (if sortT t = "id" then some t else none) = if dol t = true then some t else none
    rw [hd.1.1]
    by_cases q : sortT t = "id"
    · rw [if_pos q, if_pos (by first | exact decide_eq_true (by assumption) | exact decide_eq_false (by assumption) | exact ndF (by assumption) | exact ndT (by assumption))]
    · rw [if_neg q, if_neg (by simpa using q)]
theorem id_name (i : Nat) : (idAt (itemsT ts) i).getD "" = nameAt ts i ∧ (if (idAt (itemsT ts) i).isSome = true then 1 else 0) = nl (nameAt ts i) ∧ ∀ nm, (idAt (itemsT ts) i).any (fun n => !decide (n = nm)) = !((["", nm] : List Str).any (· == nameAt ts i)) := by
  rw [id_items hg]
  unfold nameAt
  cases h : ts[i]? with
  | none => exact ⟨rfl, by decide +kernel, fun nm => by simp⟩
  | some t =>
    have hd := List.all_eq_true.mp idAll t (good_at hg h)
    unfold idB at hd
    simp only [Bool.and_eq_true, decide_eq_true_eq, Bool.or_eq_true, Bool.not_eq_true', decide_eq_false_iff_not] at hd
    by_cases q : dol t = true
    · simp only [Option.bind_some, q, if_true]
      obtain ⟨h1, h2⟩ : nl t = 1 ∧ t ≠ "" := by
        rcases hd.1.2 with z | z
        · rw [q] at z; cases z
        · exact z
      refine ⟨rfl, by rw [h1]; rfl, fun nm => ?_⟩
      have : ¬ ("" : Str) = t := fun e => h2 e.symm
      by_cases e : t = nm
      · subst e; simp
      · have e' : ¬ nm = t := fun z => e z.symm
        simp [e, e', this]
    · simp only [Option.bind_some, if_neg q]
      exact ⟨rfl, by decide +kernel, fun nm => by simp⟩
theorem sort_of {t : Str} (h : GoodT t) : sortT t = "word" ∨ sortT t = "reserved" ∨ sortT t = "id" ∨ sortT t = "int" := by
  have hd := List.all_eq_true.mp idAll t h
  unfold idB at hd
  simp only [Bool.and_eq_true, decide_eq_true_eq, Bool.or_eq_true] at hd
  rcases hd.2 with (((h | h) | h) | h)
  · exact .inl h
  · exact .inr (.inl h)
  · exact .inr (.inr (.inl h))
  · exact .inr (.inr (.inr h))
omit hg in
theorem hiB_iff {s : Str} : hiB s = true ↔ s = "int" ∨ s = "id" := by
  unfold hiB
  rw [List.any_eq_true]
  constructor
  · rintro ⟨x, hx, he⟩
    have := beq_iff_eq.mp he
    subst this
    simp only [List.mem_cons, List.not_mem_nil, or_false] at hx
    exact hx
  · rintro (h | h)
    · exact ⟨"int", by simp, by rw [h]; exact beq_self_eq_true _⟩
    · exact ⟨"id", by simp, by rw [h]; exact beq_self_eq_true _⟩
omit hg in
theorem label_eq {names : List Str} {t : Str} {p : Nat} (h : GoodT t) (hs : hiB (sortT t) = true) : labelR names (tkT t p) = convL (lawLabel names t p) := by
  unfold tkT lawLabel
  rcases hiB_iff.mp hs with e | e
  · have n1 : ¬ sortT t = "id" := by rw [e]; decide
    rw [if_neg n1]
    have hv : valT t = .int (intT t) := by unfold valT; rw [if_pos e]
    rw [hv, e]
    cases hb : signB t with
    | true =>
      rw [labelR_1 hb, if_pos (.inr rfl)]
      show _ = Except.error (exnOf (refP t) p)
      rw [row_nn]
      unfold refP; rw [e, refW (by decide)]
    | false =>
      rw [if_neg (by decide)]
      by_cases hn : intT t < 2 ^ 32
      · rw [labelR_3 hb hn, if_pos hn]; rfl
      · rw [labelR_2 hb (by first | decide | (refine Nat.le_trans (by assumption) ?_; exact Nat.le_of_ble_eq_true rfl) | lia), if_neg hn]
        show _ = Except.error (exnOf _ p)
        rw [row_nn]
  · have n1 : sortT t ≠ "int" := by rw [e]; decide
    rw [if_pos e]
    cases hk : idxS names.reverse t with
    | some k => rw [labelR_4 n1 hk]; rfl
    | none =>
      rw [labelR_5 n1 hk, e, refW (fun q => absurd q.2 (by decide))]
      show _ = Except.error (exnOf _ p)
      rw [row_nn]
omit hg in
theorem labels_eq {names : List Str} {ps : List (Str × Nat)} : (∀ p ∈ ps, labelR names (tkT p.1 p.2) = convL (lawLabel names p.1 p.2)) →
    labelsR names (ps.map fun p => tkT p.1 p.2) = (match (ps.map fun p => lawLabel names p.1 p.2).filter isE with
      | .error w :: _ => .error (exnOf w.1 w.2)
      | _ => .ok ((ps.map fun p => lawLabel names p.1 p.2).map fun g => match g with | .ok n => n | .error _ => 0)) := by
  induction ps with
  | nil => intro _; rfl
  | cons p ps ih =>
    intro h
    replace ih := ih fun q hq => h q (List.mem_cons_of_mem _ hq)
    rw [List.map_cons, labelsR_c, h p (List.mem_cons_self ..), List.map_cons]
    cases hl : lawLabel names p.1 p.2 with
    | error w =>
      rw [List.filter_cons_of_pos (show isE (.error w) = true from rfl)]
      rfl
    | ok n =>
      rw [List.filter_cons_of_neg (show ¬ false = true by decide)]
      show (match labelsR names (ps.map fun p => tkT p.1 p.2) with | .error e => Except.error e | .ok ns => Except.ok (n :: ns)) = _
      rw [ih]
      cases hf : (ps.map fun p => lawLabel names p.1 p.2).filter isE with
      | nil => rfl
      | cons g gs =>
        have hge : isE g = true := (List.mem_filter.mp (hf ▸ List.mem_cons_self .. : g ∈ (ps.map fun p => lawLabel names p.1 p.2).filter isE)).2
        cases g with
        | ok m => cases hge
        | error w => rfl
noncomputable def RunI (ts : List Str) (i : Nat) : Prop := runIx (itemsT ts) i = (List.range (runT ts i).length).map (fun k => tkT (ts.getD (i + k) "") (i + k)) ∧ ∀ k, k < (runT ts i).length → ∃ t, ts[i + k]? = some t ∧ hiB (sortT t) = true
omit hg in
theorem run_none {i : Nat} (e1 : runT ts i = []) (e2 : runIx (itemsT ts) i = []) : RunI ts i := by
  unfold RunI
  rw [e1, e2]; exact ⟨rfl, fun k hk => by cases hk⟩
omit hg in
theorem run_end {i : Nat} (h : ts[i]? = none) : RunI ts i := by
  refine run_none (runT_stop fun t ht => by rw [h] at ht; cases ht) ?_
  unfold runIx
  rw [List.drop_eq_nil_of_le (by rw [items_len]; exact List.getElem?_eq_none_iff.mp h)]; rfl
omit hg in
theorem run_items (n : Nat) : ∀ (i : Nat), ts.length - i ≤ n → RunI ts i := by
  induction n with
  | zero => intro i hn; exact run_end (List.getElem?_eq_none (Nat.le_of_sub_eq_zero (Nat.le_zero.mp hn)))
  | succ n ih =>
    intro i hn
    cases h : ts[i]? with
    | none => exact run_end h
    | some t =>
      have hit : (itemsT ts)[i]? = some (tkT t i) := by rw [items_get, h]; rfl
      cases hs : hiB (sortT t) with
      | false =>
        refine run_none (runT_stop fun t' ht => by rw [h] at ht; cases ht; exact hs) ?_
        unfold runIx
        obtain ⟨hl, he⟩ := List.getElem?_eq_some_iff.mp hit
        rw [List.drop_eq_getElem_cons hl, he, List.takeWhile_cons, if_neg (by show ¬ hiB (sortT t) = true; rw [hs]; decide)]
      | true =>
        obtain ⟨ih1, ih2⟩ := ih (i + 1) (Nat.pred_le_pred hn)
        unfold RunI
        have hh : hiP (itemsT ts) i = true := by unfold hiP; rw [hit]; exact hs
        rw [runIx_true hit hh, runT_cons h hs, List.length_cons]
        refine ⟨?_, fun k hk => ?_⟩
        · rw [List.range_succ_eq_map, List.map_cons, ih1, List.map_map]
          congr 1
          · rw [Nat.add_zero, List.getD_eq_getElem?_getD, h]; rfl
          · refine List.map_congr_left fun k _ => ?_
            show tkT (ts.getD (i + 1 + k) "") (i + 1 + k) = tkT (ts.getD (i + (k + 1)) "") (i + (k + 1))
            rw [Nat.add_assoc, Nat.add_comm 1 k]
        · cases k with
          | zero => exact ⟨t, h, hs⟩
          | succ k =>
            obtain ⟨t', h1, h2⟩ := ih2 k (Nat.lt_of_succ_lt_succ hk)
            exact ⟨t', by rw [Nat.add_comm k 1, ← Nat.add_assoc]; exact h1, h2⟩
theorem goals_eq {names : List Str} {word : Str} {i1 : Nat} {t1 : Str} (h1 : ts[i1]? = some t1) (hs : hiB (sortT t1) = true) :
    labelsR names (goalsOf (if word = "br_table" then ("labels" : Str) else ("label" : Str)) (itemsT ts) i1) = (match (goalsE names ts i1 (manyOf word ts i1)).filter isE with
      | .error w :: _ => .error (exnOf w.1 w.2)
      | _ => .ok ((goalsE names ts i1 (manyOf word ts i1)).map fun g => match g with | .ok n => n | .error _ => 0)) := by
  obtain ⟨r1, r2⟩ := run_items (ts := ts) _ i1 (Nat.le_refl _)
  have hrl : (runT ts i1).length = 1 + (runT ts (i1 + 1)).length := by rw [runT_cons h1 hs, List.length_cons, Nat.add_comm]
  have e1 : goalsOf (if word = "br_table" then ("labels" : Str) else ("label" : Str)) (itemsT ts) i1 = (List.range (manyOf word ts i1)).map fun k => tkT (ts.getD (i1 + k) "") (i1 + k) := by
    unfold goalsOf manyOf
    by_cases hw : word = "br_table"
    · rw [if_pos hw, if_pos rfl, if_pos hw, ← hrl]; exact r1
    · rw [if_neg hw, if_neg (by decide), if_neg hw, r1, ← List.map_take, hrl, List.take_range, Nat.min_eq_left (by first | decide | (refine Nat.le_trans (by assumption) ?_; exact Nat.le_of_ble_eq_true rfl) | lia)]
  have hle : manyOf word ts i1 ≤ (runT ts i1).length := by unfold manyOf; split <;> lia
  have e2 : goalsE names ts i1 (manyOf word ts i1) = ((List.range (manyOf word ts i1)).map fun k => (ts.getD (i1 + k) "", i1 + k)).map fun p : Str × Nat => lawLabel names p.1 p.2 := by
    unfold goalsE; rw [List.map_map]; rfl
  have e3 : ((List.range (manyOf word ts i1)).map fun k => tkT (ts.getD (i1 + k) "") (i1 + k)) = ((List.range (manyOf word ts i1)).map fun k => (ts.getD (i1 + k) "", i1 + k)).map fun p : Str × Nat => tkT p.1 p.2 := by
    rw [List.map_map]; rfl
  rw [e1, e2, e3]
  refine labels_eq fun p hp => ?_
  obtain ⟨k, hk, rfl⟩ := List.mem_map.mp hp
  obtain ⟨t, ht, hst⟩ := r2 k (Nat.lt_of_lt_of_le (List.mem_range.mp hk) hle)
  have : ts.getD (i1 + k) "" = t := by rw [List.getD_eq_getElem?_getD, ht]; rfl
  show labelR names (tkT (ts.getD (i1 + k) "") (i1 + k)) = convL (lawLabel names (ts.getD (i1 + k) "") (i1 + k))
  rw [this]
  exact label_eq (good_at hg ht) hst
end
end Mine
end

section
namespace Mine
structure Prog (ts : List Str) (i : Nat) (O : List Ob) (r : Except (Str × Int) (Nat × V × List Ob)) : Prop where
  ok : ∀ j iv O', r = .ok (j, iv, O') → i < j ∧ j ≤ ts.length ∧ O'.length ≤ O.length + 1 ∧ IvOk iv ∧ ∀ ob ∈ O', sortT ob.word = "word"
theorem Prog.err {ts : List Str} {i : Nat} {O : List Ob} {w : Str × Int} : Prog ts i O (.error w) := ⟨fun _ _ _ h => by cases h⟩
theorem Prog.mk' {ts : List Str} {i : Nat} {O O' : List Ob} {j : Nat} {iv : V} (h : i < j ∧ j ≤ ts.length ∧ O'.length ≤ O.length + 1 ∧ IvOk iv ∧ ∀ ob ∈ O', sortT ob.word = "word") : Prog ts i O (.ok (j, iv, O')) := ⟨fun _ _ _ e => by cases e; exact h⟩
theorem lt_nl {i k : Nat} : i < i + 1 + k := Nat.lt_of_lt_of_le (Nat.lt_succ_self i) (Nat.le_add_right _ _)
theorem labV_int {gs : List (Except (Str × Int) Int)} (h : gs.filter isE = []) : gs.map labV = (gs.map fun g => match g with | .ok n => n | .error _ => (0 : Int)).map V.int := by
  rw [List.map_map]
  refine List.map_congr_left fun g hg => ?_
  cases g with
  | ok n => rfl
  | error w =>
    have : Except.error w ∈ gs.filter isE := List.mem_filter.mpr ⟨hg, rfl⟩
    rw [h] at this; cases this
theorem getF_int {t : Str} {v : V} : ∀ {ks : List Str} {is : List Int}, getF ks (is.map V.int) t = some v → ∃ n, v = .int n
  | [], _, h => by simp [getF] at h
  | k :: ks, [], h => by simp [getF] at h
  | k :: ks, i :: is, h => by
    rw [List.map_cons, getF] at h
    split at h
    · cases h; exact ⟨i, rfl⟩
    · exact getF_int h
theorem plain_int {t : Str} {v : V} (h : getF plainKs (plainIs.map V.int) t = some v) : ∃ n, v = .int n := getF_int h
section
variable {ts : List Str} (hg : ∀ t ∈ ts, GoodT t)
include hg
theorem nl_le {i : Nat} : i ≤ ts.length → i + nl (nameAt ts i) ≤ ts.length := fun hi => by
  obtain ⟨_, h2, _⟩ := id_name hg i
  rw [← h2, id_items hg]
  cases h : ts[i]? with
  | none => simp; exact hi
  | some t =>
    have := (List.getElem?_eq_some_iff.mp h).1
    split <;> lia
omit hg in
/-- what the reader makes of an instruction's outcome -/
theorem plainR_ins {ls : List Lb} {b0 : Nat} {l : List It} {s t : Str} {v : V} {r c : Int} {i : Nat} {x : Except Exn (V × Nat)} (h1 : bB t = false) (h2 : (["else", "end"] : List Str).any (· == t) = false) (hx : instrR (ls.map (·.name)) l (i + 1) s t v r c = x) :
    plainR ls b0 l i s t v r c = plainI ls x := by
  subst hx
  exact (if_neg (nb h1)).trans (if_neg (nb h2))
noncomputable def StepT (ts : List Str) (O : List Ob) (i : Nat) (t : Str) : Prop := itemR (O.map toLb) (itemsT ts) i = convS (dueStep ts i t O) ∧ Prog ts i O (dueStep ts i t O)
variable {O : List Ob} {i : Nat} {t : Str} (hi : ts[i]? = some t)
include hi
omit hg in
theorem item_w (c1 : sortT t = "word") : itemR (O.map toLb) (itemsT ts) i = plainR (O.map toLb) 0 (itemsT ts) i (sortT t) t (valT t) (rowOf i) (colOf i) := by
  unfold itemR
  rw [items_get, hi]
  exact if_pos c1
omit hg in
theorem item_n (c1 : ¬ sortT t = "word") : itemR (O.map toLb) (itemsT ts) i = .error (xBT (refP t) (rowOf i) (colOf i)) := by
  unfold itemR
  rw [items_get, hi]
  exact if_neg c1
omit hg hi in
theorem obNames : ((O.map toLb).map (·.name)) = O.map (·.name) := by rw [List.map_map]; rfl
omit hg hi in
theorem ref_w (c1 : sortT t = "word") (why : Str) (p : Nat) : refI why (.tok (sortT t) t (valT t) (rowOf p) (colOf p)) = exnOf why (p : Int) := by
  show xBT (refWhy why (sortT t)) _ _ = _
  rw [refW (fun q => by rw [c1] at q; exact absurd q.2 (by decide)), row_nn]
theorem step_blk (hO : ∀ ob ∈ O, sortT ob.word = "word") (c1 : sortT t = "word") (c2 : bB t = true) (c3 : codeO t = some (2 + blIx t)) : StepT ts O i t := by
  have hlt := (List.getElem?_eq_some_iff.mp hi).1
  obtain ⟨nm1, nm2, _⟩ := id_name hg (i + 1)
  have hnl := nl_le hg (i := i + 1) hlt
  unfold StepT
  rw [item_w hi c1, dueStep_blk c2]
  refine ⟨(if_pos c2).trans ?_, .mk' ⟨lt_nl, hnl, Nat.le_of_eq List.length_append, ⟨[2 + blIx t, -64], rfl⟩, fun ob hob => ?_⟩⟩
  · rw [nm2, nm1, codeO_some c3]
    show _ = Except.ok (_, _, (O ++ [_]).map toLb)
    rw [List.map_append]; rfl
  · rcases List.mem_append.mp hob with q | q
    · exact hO ob q
    · simp at q; subst q; exact c1
omit hi hg in
theorem toLb_if {ob : Ob} : obW ob = "if" ↔ ¬ ((toLb ob).word ≠ "if" ∨ (toLb ob).els = true) := by
  unfold obW
  show (if ob.els = true then ("else" : Str) else ob.word) = "if" ↔ ¬ (ob.word ≠ "if" ∨ ob.els = true)
  by_cases h : ob.els = true
  · rw [if_pos h]; exact ⟨fun q => absurd q (by decide), fun q => absurd (.inr h) q⟩
  · rw [if_neg h]
    exact ⟨fun q z => z.elim (fun a => a q) h, fun q => Decidable.byContradiction fun a => q (.inl a)⟩
omit hi hg in
/-- an end, an else: the reader's side -/
theorem endR_at {O0 : List Ob} {ob : Ob} {l : List It} {k : Nat} {s : Str} {v : V} {r c : Int} {x : Except Exn (Nat × V × List Lb)}
    (h : (if (idAt l k).any (fun n => !decide (n = ob.name)) = true then .error (refI "mismatching label" (l[k]?.getD (.tok s t v r c)))
      else if t = "end" then .ok (k + (if (idAt l k).isSome = true then 1 else 0), .tup [.int 11], O0.map toLb)
      else if (toLb ob).word ≠ "if" ∨ (toLb ob).els = true then .error (refI "unexpected token" (.tok s t v r c))
      else .ok (k + (if (idAt l k).isSome = true then 1 else 0), .tup [.int 5], O0.map toLb ++ [{ toLb ob with els := true }])) = x) : endR ((O0 ++ [ob]).map toLb) 0 l k s t v r c = x := by
  subst h
  unfold endR
  rw [if_neg (by simp), List.map_append, List.map_cons, List.map_nil, List.getLast?_append, List.getLast?_singleton, List.dropLast_concat]
  rfl
theorem step_end (hO : ∀ ob ∈ O, sortT ob.word = "word") (c1 : sortT t = "word") (c2 : bB t = false) (c3 : eB t = true) (c4 : (["else", "end"] : List Str).any (· == t) = true) (c5 : t = "end" ∨ t = "else") : StepT ts O i t := by
  have hlt := (List.getElem?_eq_some_iff.mp hi).1
  unfold StepT
  rw [item_w hi c1, show plainR (O.map toLb) 0 (itemsT ts) i (sortT t) t (valT t) (rowOf i) (colOf i) = endR (O.map toLb) 0 (itemsT ts) (i + 1) (sortT t) t (valT t) (rowOf i) (colOf i) from (if_neg (nb c2)).trans (if_pos c4)]
  rcases List.eq_nil_or_concat O with rfl | ⟨O0, ob, rfl⟩
  · rw [dueStep_end0 c2 c3]
    exact ⟨congrArg Except.error (ref_w c1 _ _), .err⟩
  rw [List.concat_eq_append] at hO ⊢
  rw [dueStep_end1 c2 c3]
  obtain ⟨_, nm2, nm3⟩ := id_name hg (i + 1)
  have n3 := nm3 ob.name
  cases b3 : (["", ob.name] : List Str).any (· == nameAt ts (i + 1)) with
  | false =>
    rw [endD_mis b3]
    rw [b3] at n3
    refine ⟨endR_at ((if_pos n3).trans ?_), .err⟩
    rw [id_items hg] at n3
    rw [items_get]
    cases h1 : ts[i + 1]? with
    | none => rw [h1] at n3; cases n3
    | some t1 =>
      show Except.error (xBT (refWhy "mismatching label" (sortT t1)) (rowOf (i + 1)) (colOf (i + 1))) = Except.error (exnOf "mismatching label" ((i : Int) + 1))
      rw [refW (fun q => absurd q.1 (by decide)), show ((i : Int) + 1) = ((i + 1 : Nat) : Int) from rfl, row_nn]
  | true =>
    rw [b3] at n3
    have hnl := nl_le hg (i := i + 1) hlt
    have hO0 : ∀ o ∈ O0, sortT o.word = "word" := fun o ho => hO o (List.mem_append_left _ ho)
    have n4 : ¬ (idAt (itemsT ts) (i + 1)).any (fun n => !decide (n = ob.name)) = true := by rw [n3]; decide
    rcases c5 with rfl | rfl
    · rw [endD_ok b3 (fun q => absurd q.1 (by decide))]
      refine ⟨endR_at ((if_neg n4).trans ((if_pos rfl).trans ?_)), .mk' ⟨lt_nl, hnl, ?_, ⟨[11], rfl⟩, by rw [if_pos rfl]; exact hO0⟩⟩
      · rw [nm2]; rfl
      · rw [if_pos rfl, List.length_append]; exact Nat.le_trans (Nat.le_add_right _ _) (Nat.le_succ _)
    · have e1 : ¬ ("else" : Str) = "end" := by decide
      by_cases hw : obW ob = "if"
      · rw [endD_ok b3 (fun q => q.2 hw)]
        refine ⟨endR_at ((if_neg n4).trans ((if_neg e1).trans ((if_neg (toLb_if.mp hw)).trans ?_))), .mk' ⟨lt_nl, hnl, ?_, ⟨[5], rfl⟩, fun o ho => ?_⟩⟩
        · rw [nm2, if_neg e1, if_neg e1]
          show _ = Except.ok (_, _, (O0 ++ [_]).map toLb)
          rw [List.map_append]; rfl
        · rw [if_neg e1, List.length_append, List.length_append]; exact Nat.le_succ _
        · rw [if_neg e1] at ho
          rcases List.mem_append.mp ho with q | q
          · exact hO0 o q
          · simp at q; subst q; exact hO ob (by simp)
      · rw [endD_bad b3 ⟨rfl, hw⟩]
        refine ⟨endR_at ((if_neg n4).trans ((if_neg e1).trans ((if_pos (Decidable.byContradiction fun q => hw (toLb_if.mpr q))).trans ?_))), .err⟩
        exact congrArg Except.error (ref_w c1 _ _)
theorem step_br (hO : ∀ ob ∈ O, sortT ob.word = "word") (c1 : sortT t = "word") (c2 : bB t = false) (c3 : eB t = false) (c4 : (["else", "end"] : List Str).any (· == t) = false) (c5 : brB t = true) (c6 : ¬ t = "select") (c7 : owB t = false) (c8 : codeO t = some (12 + brIx t)) (c9 : plainF.any (· == formS t) = false)
    (c10 : formS t = if t = "br_table" then ("labels" : Str) else ("label" : Str)) : StepT ts O i t := by
  have hlt := (List.getElem?_eq_some_iff.mp hi).1
  have hfs : strOfV (formV (12 + brIx t)) = formS t := by unfold formS; rw [c8]
  have ins : ∀ {x}, (if hiP (itemsT ts) (i + 1) = true then (match labelsR (O.map (·.name)) (goalsOf (if t = "br_table" then ("labels" : Str) else ("label" : Str)) (itemsT ts) (i + 1)) with
      | .ok ns => .ok (.tup (.int (12 + brIx t) :: ns.map V.int), i + 1 + ns.length)
      | .error e => .error e)
    else .error (refI "unexpected token" ((itemsT ts)[i + 1]?.getD (.tok (sortT t) t (valT t) (rowOf i) (colOf i))))) = x → instrR ((O.map toLb).map (·.name)) (itemsT ts) (i + 1) (sortT t) t (valT t) (rowOf i) (colOf i) = x := fun {x} e => by
    subst e
    refine (if_neg c6).trans ((if_neg (nb c7)).trans ?_)
    rw [c8, obNames]
    dsimp only
    rw [hfs, if_neg (nb c9), c10]
    try rfl
  unfold StepT
  rw [item_w hi c1]
  cases h1 : ts[i + 1]? with
  | none =>
    have hh : hiP (itemsT ts) (i + 1) = false := by unfold hiP; rw [items_get, h1]; rfl
    have hw : branchV t ts (i + 1) (O.map (·.name)) = wrongV ("unexpected token", ((i + 1 : Nat) : Int) - 1) := by unfold branchV; rw [h1]
    rw [dueStep_brE c2 c3 c5 hw, plainR_ins c2 c4 (ins (if_neg (nb hh))), items_get, h1]
    refine ⟨?_, .err⟩
    show Except.error (refI "unexpected token" (.tok (sortT t) t (valT t) (rowOf i) (colOf i))) = Except.error (exnOf "unexpected token" (((i + 1 : Nat) : Int) - 1))
    rw [ref_w c1, show (((i + 1 : Nat) : Int) - 1) = (i : Int) from Int.add_sub_cancel (i : Int) 1]
  | some t1 =>
    have hgt1 := good_at hg h1
    have hh : hiP (itemsT ts) (i + 1) = hiB (sortT t1) := by unfold hiP; rw [items_get, h1]; rfl
    cases hb : hiB (sortT t1) with
    | false =>
      have hany : (["word", "reserved"] : List Str).any (· == sortT t1) = true := by
        rcases sort_of hg hgt1 with e | e | e | e
        · rw [e]; decide
        · rw [e]; decide
        · rw [hiB_iff.mpr (.inr e)] at hb; cases hb
        · rw [hiB_iff.mpr (.inl e)] at hb; cases hb
      have hw : branchV t ts (i + 1) (O.map (·.name)) = wrongV (refP t1, ((i + 1 : Nat) : Int)) := by unfold branchV; rw [h1]; exact if_pos hany
      rw [dueStep_brE c2 c3 c5 hw, plainR_ins c2 c4 (ins (if_neg (by rw [hh, hb]; decide))), items_get, h1]
      refine ⟨?_, .err⟩
      show Except.error (xBT (refWhy "unexpected token" (sortT t1)) (rowOf (i + 1)) (colOf (i + 1))) = Except.error (exnOf (refP t1) ((i + 1 : Nat) : Int))
      rw [row_nn]; rfl
    | true =>
      have hany : ¬ (["word", "reserved"] : List Str).any (· == sortT t1) = true := by
        rcases hiB_iff.mp hb with e | e <;> rw [e] <;> decide
      have hw1 : branchV t ts (i + 1) (O.map (·.name)) = (match (goalsE (O.map (·.name)) ts (i + 1) (manyOf t ts (i + 1))).filter isE with
          | g :: _ => labV g
          | [] => .tup [.int (brIx t), .lst ((goalsE (O.map (·.name)) ts (i + 1) (manyOf t ts (i + 1))).map labV)]) := by unfold branchV; rw [h1]; exact if_neg hany
      rw [plainR_ins c2 c4 (ins (if_pos (hh.trans hb))), goals_eq hg h1 hb]
      cases hf : (goalsE (O.map (·.name)) ts (i + 1) (manyOf t ts (i + 1))).filter isE with
      | nil =>
        have hmany : manyOf t ts (i + 1) + (i + 1) ≤ ts.length := by
          have hrl : (runT ts (i + 1)).length = 1 + (runT ts (i + 1 + 1)).length := by rw [runT_cons h1 hb, List.length_cons, Nat.add_comm]
          rcases runT_len ts (i + 1) with q | q
          · unfold manyOf; split <;> lia
          · rw [q, List.length_nil] at hrl; lia
        have hglen : (goalsE (O.map (·.name)) ts (i + 1) (manyOf t ts (i + 1))).length = manyOf t ts (i + 1) := by unfold goalsE; simp
        rw [hf] at hw1
        rw [dueStep_brO c2 c3 c5 hw1]
        dsimp only
        rw [labV_int hf, List.length_map, List.length_map, List.length_map, hglen]
        exact ⟨rfl, .mk' ⟨lt_nl, by rw [Nat.add_comm]; exact hmany, Nat.le_succ _, ⟨(12 + brIx t) :: _, rfl⟩, hO⟩⟩
      | cons g gs =>
        have hge : isE g = true := (List.mem_filter.mp (hf ▸ List.mem_cons_self .. : g ∈ (goalsE (O.map (·.name)) ts (i + 1) (manyOf t ts (i + 1))).filter isE)).2
        rw [hf] at hw1
        cases g with
        | ok m => cases hge
        | error w =>
          rw [dueStep_brE c2 c3 c5 (w := w) hw1]
          exact ⟨rfl, .err⟩
theorem step_rest (hO : ∀ ob ∈ O, sortT ob.word = "word") (c1 : sortT t = "word") (c2 : bB t = false) (c3 : eB t = false) (c4 : (["else", "end"] : List Str).any (· == t) = false) (c5 : brB t = false) {x : Except Exn (V × Nat)} (hx : instrR ((O.map toLb).map (·.name)) (itemsT ts) (i + 1) (sortT t) t (valT t) (rowOf i) (colOf i) = x)
    {d : Except (Str × Int) (Nat × V × List Ob)} (hd : restD t i O (gB t) = d) (h : plainI (O.map toLb) x = convS d ∧ Prog ts i O d) : StepT ts O i t := by
  subst hd
  unfold StepT
  rw [item_w hi c1, plainR_ins c2 c4 hx, dueStep_rest c2 c3 c5 rfl]
  exact h
theorem step_eq (hO : ∀ ob ∈ O, sortT ob.word = "word") : StepT ts O i t := by
  have hlt := (List.getElem?_eq_some_iff.mp hi).1
  have hc := List.all_eq_true.mp clsAll t (good_at hg hi)
  unfold clsB w0 at hc
  simp only [Bool.or_eq_true, Bool.and_eq_true, Bool.not_eq_true', decide_eq_true_eq, decide_eq_false_iff_not] at hc
  rcases hc with (((((((⟨⟨c1, c2⟩, c3⟩ | ⟨⟨⟨⟨c1, c2⟩, c3⟩, c4⟩, c5⟩) | ⟨⟨⟨⟨⟨⟨⟨⟨⟨c1, c2⟩, c3⟩, c4⟩, c5⟩, c6⟩, c7⟩, c8⟩, c9⟩, c10⟩) | ⟨⟨⟨⟨⟨⟨c1, c2⟩, c3⟩, c4⟩, c5⟩, c6⟩, c7⟩) | ⟨⟨⟨⟨⟨⟨⟨⟨⟨c1, c2⟩, c3⟩, c4⟩, c5⟩, c6⟩, c7⟩, c8⟩, c9⟩, c10⟩) | ⟨⟨⟨⟨⟨⟨⟨⟨⟨⟨c1, c2⟩, c3⟩, c4⟩, c5⟩, c6⟩, c7⟩, c8⟩, c9⟩, c10⟩, c11⟩) | ⟨⟨⟨⟨⟨⟨⟨⟨⟨⟨c1, c2⟩, c3⟩, c4⟩, c5⟩, c6⟩, c7⟩, c8⟩, c9⟩, c10⟩, c11⟩) | ⟨⟨⟨⟨⟨⟨⟨⟨⟨c1, c2⟩, c3⟩, c4⟩, c5⟩, c6⟩, c7⟩, c8⟩, c9⟩, c10⟩) | ⟨⟨⟨⟨⟨⟨c1, c2⟩, c3⟩, c4⟩, c5⟩, c6⟩, c7⟩
  · exact step_blk hg hi hO c1 c2 c3
  · exact step_end hg hi hO c1 c2 c3 c4 c5
  · exact step_br hg hi hO c1 c2 c3 c4 c5 c6 c7 c8 c9 c10
  · obtain ⟨v, hv, he⟩ := Option.map_eq_some_iff.mp c7
    obtain ⟨n, rfl⟩ := plain_int hv
    cases he
    exact step_rest hg hi hO c1 c2 c3 c4 c5 (if_pos c6) (congrArg _ hv) ⟨rfl, .mk' ⟨Nat.lt_succ_self _, hlt, Nat.le_succ _, ⟨[27], rfl⟩, hO⟩⟩
  · obtain ⟨c, hcc⟩ := Option.isSome_iff_exists.mp c8
    rw [hcc] at c9
    obtain ⟨v, hv, he⟩ := Option.map_eq_some_iff.mp c9
    obtain ⟨n, rfl⟩ := plain_int hv
    cases he
    refine step_rest hg hi hO c1 c2 c3 c4 c5 (x := .ok (.tup [.int n], i + 1)) ((if_neg c6).trans ((if_neg (nb c7)).trans ?_)) (congrArg _ hv) ⟨rfl, .mk' ⟨Nat.lt_succ_self _, hlt, Nat.le_succ _, ⟨[n], rfl⟩, hO⟩⟩
    have hfs : strOfV (formV n) = formS t := by unfold formS; rw [hcc]; rfl
    rw [hcc]
    exact if_pos (by rw [show intOfV (.int n) = n from rfl, hfs]; exact c10)
  · refine step_rest hg hi hO c1 c2 c3 c4 c5 (x := .error (xLO t (rowOf i))) ((if_neg c6).trans ((if_neg (nb c7)).trans ?_)) ((congrArg _ (Option.isNone_iff_eq_none.mp c9)).trans (if_pos c10)) ⟨?_, .err⟩
    · rw [c8]; exact if_pos c11
    · show Except.error (xLO t (rowOf i)) = Except.error (exnOf t (0 - ((i : Int) + 1)))
      unfold exnOf
      rw [if_neg (by first | decide | (refine Nat.le_trans (by assumption) ?_; exact Nat.le_of_ble_eq_true rfl) | lia), show (-1 - (0 - ((i : Int) + 1))) = (i : Int) by lia]; rfl
  · refine step_rest hg hi hO c1 c2 c3 c4 c5 (x := .error (refI "unknown operator" (.tok (sortT t) t (valT t) (rowOf i) (colOf i)))) ((if_neg c6).trans ((if_neg (nb c7)).trans ?_)) ((congrArg _ (Option.isNone_iff_eq_none.mp c9)).trans ((if_neg (show ¬ t = "f64.add" by rw [c10]; decide)).trans (if_pos c10))) ⟨?_, .err⟩
    · rw [c8]; exact if_neg (nb c11)
    · exact congrArg Except.error (ref_w c1 _ _)
  · refine step_rest hg hi hO c1 c2 c3 c4 c5 ((if_neg c6).trans (if_pos c7)) ((congrArg _ (Option.isNone_iff_eq_none.mp c8)).trans ((if_neg c9).trans (if_neg c10))) ⟨?_, .err⟩
    show Except.error (xBT (refP t) (rowOf i) (colOf i)) = Except.error (exnOf (refP t) (i : Int))
    rw [row_nn]
  · unfold StepT
    rw [item_n hi c1, dueStep_rest c2 c3 c4 (Option.isNone_iff_eq_none.mp c5), show restD t i O none = .error (refP t, (i : Int)) from (if_neg c6).trans (if_neg c7)]
    refine ⟨?_, .err⟩
    show Except.error (xBT (refP t) (rowOf i) (colOf i)) = Except.error (exnOf (refP t) (i : Int))
    rw [row_nn]
end
end Mine
end

section
namespace Mine
section
variable {ts : List Str} (hg : ∀ t ∈ ts, GoodT t)
include hg
noncomputable def DueG (ts : List Str) (n i : Nat) (B : List V) (O : List Ob) (res : Except (Str × Int) (List V)) : Prop := dueAll ts (n + 1) i B O = some res ∧ runAll (itemsT ts) (n + 1) i B (O.map toLb) = some (convR res) ∧ ∀ B', res = .ok B' → ∀ v ∈ B', IvOk v
omit hg in
theorem due_none {n i : Nat} {B : List V} {O : List Ob} (hi : i = ts.length) (hB : B.length ≤ 1000) (hO : O.length ≤ 1000) (hw : ∀ ob ∈ O, sortT ob.word = "word") (hv : ∀ v ∈ B, IvOk v) : ∃ res, DueG ts n i B O res := by
  subst hi
  have hl := items_len ts
  have g : ¬ ((itemsT ts).length < ts.length ∨ 1000 < (O.map toLb).length ∨ 1000 < B.length) := by rw [hl, List.length_map]; lia
  unfold DueG
  rw [dueAll_s, runAll_s, if_neg (by first | decide | (refine Nat.le_trans (by assumption) ?_; exact Nat.le_of_ble_eq_true rfl) | lia), if_neg g, if_pos hl.symm, List.getElem?_eq_none (Nat.le_refl _)]
  rcases List.eq_nil_or_concat O with rfl | ⟨O0, ob, rfl⟩
  · exact ⟨.ok B, rfl, rfl, fun B' e => by cases e; exact hv⟩
  · have hob := hw ob (by simp)
    simp only [List.concat_eq_append, List.map_append, List.map_cons, List.map_nil, List.getLast?_append, List.getLast?_singleton, Option.some_or]
    refine ⟨_, rfl, ?_, fun B' e => by cases e⟩
    exact congrArg (fun x => some (Except.error x)) (ref_w hob _ _)
theorem due_some {n i : Nat} {t : Str} {B : List V} {O : List Ob} (hB : B.length ≤ 1000) (hO : O.length ≤ 1000) (hw : ∀ ob ∈ O, sortT ob.word = "word") (h : ts[i]? = some t)
    (k : ∀ j iv O', i < j → j ≤ ts.length → O'.length ≤ O.length + 1 → IvOk iv → (∀ ob ∈ O', sortT ob.word = "word") → ∃ m res, n = m + 1 ∧ DueG ts m j (B ++ [iv]) O' res) : ∃ res, DueG ts n i B O res := by
  have hl := items_len ts
  have hlt := (List.getElem?_eq_some_iff.mp h).1
  have g : ¬ ((itemsT ts).length < i ∨ 1000 < (O.map toLb).length ∨ 1000 < B.length) := by rw [hl, List.length_map]; lia
  obtain ⟨h1, h2⟩ := step_eq hg h hw
  have e1 : dueAll ts (n + 1) i B O = (match dueStep ts i t O with
      | .error w => some (.error w)
      | .ok (j, iv, O') => dueAll ts n j (B ++ [iv]) O') := by rw [dueAll_s, if_neg (by first | decide | (refine Nat.le_trans (by assumption) ?_; exact Nat.le_of_ble_eq_true rfl) | lia), h]; try rfl
  have e2 : runAll (itemsT ts) (n + 1) i B (O.map toLb) = (match convS (dueStep ts i t O) with
      | .error e => some (.error e)
      | .ok (j, iv, ls') => runAll (itemsT ts) n j (B ++ [iv]) ls') := by rw [runAll_s, if_neg g, if_neg (by first | decide | (refine Nat.le_trans (by assumption) ?_; exact Nat.le_of_ble_eq_true rfl) | lia), h1]; try rfl
  unfold DueG
  rw [e1, e2]
  cases hs : dueStep ts i t O with
  | error w => exact ⟨_, rfl, rfl, fun B' e => by cases e⟩
  | ok r =>
    obtain ⟨j, iv, O'⟩ := r
    obtain ⟨p1, p2, p3, p4, p5⟩ := h2.ok j iv O' hs
    obtain ⟨m, res, rfl, q⟩ := k j iv O' p1 p2 p3 p4 p5
    exact ⟨res, q⟩
theorem due_run (hz : ts.length ≤ 100) (n : Nat) : ∀ (i : Nat) (B : List V) (O : List Ob), ts.length - i ≤ n → i ≤ ts.length → B.length ≤ i → O.length ≤ i → (∀ ob ∈ O, sortT ob.word = "word") → (∀ v ∈ B, IvOk v) → ∃ res, DueG ts n i B O res := by
  induction n with
  | zero => intro i B O hn hi hB hO hw hv; exact due_none (by first | decide | (refine Nat.le_trans (by assumption) ?_; exact Nat.le_of_ble_eq_true rfl) | lia) (by first | decide | (refine Nat.le_trans (by assumption) ?_; exact Nat.le_of_ble_eq_true rfl) | lia) (by first | decide | (refine Nat.le_trans (by assumption) ?_; exact Nat.le_of_ble_eq_true rfl) | lia) hw hv
  | succ n ih =>
    intro i B O hn hi hB hO hw hv
    cases h : ts[i]? with
    | none => exact due_none (Nat.le_antisymm hi (List.getElem?_eq_none_iff.mp h)) (by first | decide | (refine Nat.le_trans (by assumption) ?_; exact Nat.le_of_ble_eq_true rfl) | lia) (by first | decide | (refine Nat.le_trans (by assumption) ?_; exact Nat.le_of_ble_eq_true rfl) | lia) hw hv
    | some t =>
      refine due_some hg (by first | decide | (refine Nat.le_trans (by assumption) ?_; exact Nat.le_of_ble_eq_true rfl) | lia) (by first | decide | (refine Nat.le_trans (by assumption) ?_; exact Nat.le_of_ble_eq_true rfl) | lia) hw h fun j iv O' p1 p2 p3 p4 p5 => ?_
      obtain ⟨res, q⟩ := ih j (B ++ [iv]) O' (by first | decide | (refine Nat.le_trans (by assumption) ?_; exact Nat.le_of_ble_eq_true rfl) | lia) p2 (by rw [List.length_append]; exact Nat.le_trans (Nat.succ_le_succ hB) p1) (by first | decide | (refine Nat.le_trans (by assumption) ?_; exact Nat.le_of_ble_eq_true rfl) | lia) p5 fun v hv' => by
        rcases List.mem_append.mp hv' with q | q
        · exact hv v q
        · simp at q; subst q; exact p4
      exact ⟨n, res, rfl, q⟩
theorem pure_ok (hz : ts.length ≤ 100) : PureOk ts := by
  obtain ⟨res, h1, h2, h3⟩ := due_run hg hz ts.length 0 [] [] (by first | decide | (refine Nat.le_trans (by assumption) ?_; exact Nat.le_of_ble_eq_true rfl) | lia) (by first | decide | (refine Nat.le_trans (by assumption) ?_; exact Nat.le_of_ble_eq_true rfl) | lia) (by simp) (by simp) (fun _ h => (nomatch h)) (fun _ h => (nomatch h))
  refine ⟨fun t ht => (txt_of (hg t ht)).1, fun x hx => ?_, _, _, res, h1, h2, h3⟩
  obtain ⟨i, hi⟩ := List.getElem?_of_mem hx
  rw [items_get] at hi
  obtain ⟨t, ht, rfl⟩ := Option.map_eq_some_iff.mp hi
  exact tk_ok (good_at hg ht) i
end
end Mine
end

section
namespace Mine
theorem clsAt_all (P : Params) : (clsL.all fun x => clsOk (KK P) x.1 x.2) = true := by kernel_rfl
theorem lookup_mem {α β : Type} [BEq α] [LawfulBEq α] {k : α} {v : β} : ∀ {l : List (α × β)}, l.lookup k = some v → (k, v) ∈ l
  | [], h => by cases h
  | (a, b) :: l, h => by
    rw [List.lookup_cons] at h
    split at h
    · rename_i e
      cases h
      rw [beq_iff_eq.mp e]; exact List.mem_cons_self ..
    · exact List.mem_cons_of_mem _ (lookup_mem h)
theorem relVs_well {P : Params} {σ : Store} {h : Heap} {ns : List Int} : ∀ {vs : List Value}, WellAll P h vs (ns.map fun n => WData.int n) → RelVs P σ h (ns.map V.int) vs := by
  induction ns with
  | nil => intro vs w; cases w; rfl
  | cons n ns ih =>
    intro vs w
    cases w with
    | cons w1 w2 => cases w1; exact ⟨_, _, rfl, ⟨_, rfl⟩, ih w2⟩
theorem ofPys_map : ∀ ns : List Int, ofPys (ns.map PyData.int) = ns.map fun n => WData.int n
  | [] => rfl
  | n :: ns => by rw [List.map_cons, ofPys, ofPys_map ns]; rfl
theorem run_top {prog : Program} {w : World} {s : Shared} {p : Program} {loose : List Str} {mg mb : Str → Option Value} (T : TopRead p loose mg mb s.heap) (KX : (KK w.params).In s.heap) {fa a : Addr} (hmg : mg "law" = some (.ref fa)) {ns : List Int} (hns : ns.length ≤ 1000)
    (w0 : Well w.params s.heap (.ref a) (ofPy (PyData.list (ns.map PyData.int)))) {R : Result → Shared → Prop} (hR : ∀ s', (∀ b o, s.heap.get? b = some o → s'.heap.get? b = some o) → s'.os = s.os → s'.gens = s.gens → R (.ok (.ret (.bool true))) s') :
    codeAny (model prog w) callerA (.call (.ref fa) ⟨[.ref a], []⟩) R s := by
  have w1 : Well w.params s.heap (.ref a) (.list (ns.map fun n => WData.int n)) := by rw [ofPy, ofPys_map] at w0; exact w0
  let G : Gd := ⟨prog, w, s.heap, p, loose, mg, mb, clsL⟩
  have ok : G.Ok := ⟨T, fun C own h => ⟨KK w.params, KX, List.all_eq_true.mp (clsAt_all w.params) (C, own) (lookup_mem h)⟩⟩
  have C : Cx G := ⟨ok, KX, rfl⟩
  have hfa : fa = 642 := by
    have := mg_of KX T.g (n := "law") (e := (by kernel_rfl : nsIn (KK w.params) mainGlobals "law" = some (some (.ref 642))))
    rw [hmg] at this; cases this; rfl
  subst hfa
  have hr : RelVs G.P noStore s.heap [.lst (ns.map V.int)] [.ref a] := by
    cases w1 with
    | list h1 h2 => exact .cons ⟨a, _, _, rfl, rfl, h1, by simpa using relVs_well h2⟩ .nil
  refine c_law (G := G) C (σ := noStore) (Q := fun v _ => v = .bool true) hns (fun b v e => by cases e) (fun ts h1 h2 => pure_ok h1 h2) (fun _ => rfl) callerA s [.ref a] R ok rfl rfl (by decide) (by decide) (fun b o e => e) (fun _ _ _ => rfl) (fun b m e => by cases e) hr ?_
  rintro v s' ⟨r, σ', rfl, h2, h3, h4⟩
  cases h2
  obtain ⟨⟨h', tk, rfl⟩, k, d, l⟩ := h3
  exact hR _ (fun b o e => (k b o e).1 rfl) rfl rfl
end Mine
end

end

section
/- names that keep twins of the head's constants out of the file -/
namespace Mine.top
theorem tw11582926029173025856 : True := ⟨⟩
theorem tw14142502885225118848 : True := ⟨⟩
theorem tw13370185576492129568 : True := ⟨⟩
theorem tw2218668502564051296 : True := ⟨⟩
theorem tw15542334942015070624 : True := ⟨⟩
theorem tw13160728816969591200 : True := ⟨⟩
theorem tw13223034962123697568 : True := ⟨⟩
theorem tw14168018189251442112 : True := ⟨⟩
theorem tw2417791160451022400 : True := ⟨⟩
theorem tw4597200072644226624 : True := ⟨⟩
theorem tw2741389259953327712 : True := ⟨⟩
theorem tw1732150942055357024 : True := ⟨⟩
theorem tw15874363893724204672 : True := ⟨⟩
theorem tw1971433849790844608 : True := ⟨⟩
theorem tw7847650389618582240 : True := ⟨⟩
theorem tw3474246075231452896 : True := ⟨⟩
theorem tw16104615914030681952 : True := ⟨⟩
theorem tw17953984050398360512 : True := ⟨⟩
theorem tw11613256710310857696 : True := ⟨⟩
theorem tw12599067730712567776 : True := ⟨⟩
theorem tw2847958352784047137 : True := ⟨⟩
theorem tw9666326922614434849 : True := ⟨⟩
theorem tw17795014544551873601 : True := ⟨⟩
theorem tw1400011881503588481 : True := ⟨⟩
theorem tw2770563814800254177 : True := ⟨⟩
theorem tw1068965626710143233 : True := ⟨⟩
theorem tw4859757453598101857 : True := ⟨⟩
theorem tw1584292188352093569 : True := ⟨⟩
theorem tw18289109515434150305 : True := ⟨⟩
theorem tw13985988839938425345 : True := ⟨⟩
theorem tw15177526630643400193 : True := ⟨⟩
theorem tw7500321290955264641 : True := ⟨⟩
theorem tw6381231289166406305 : True := ⟨⟩
theorem tw11845233108574324481 : True := ⟨⟩
theorem tw1601500998369573665 : True := ⟨⟩
theorem tw9016798869158615873 : True := ⟨⟩
theorem tw9601329371697537090 : True := ⟨⟩
theorem tw4177254973167742082 : True := ⟨⟩
theorem tw5552270689369575618 : True := ⟨⟩
theorem tw2972514686349903234 : True := ⟨⟩
theorem tw3767615275625035234 : True := ⟨⟩
theorem tw17545328352263074274 : True := ⟨⟩
theorem tw1016984595167383106 : True := ⟨⟩
theorem tw15254643099363442306 : True := ⟨⟩
theorem tw9739860059890490050 : True := ⟨⟩
theorem tw5728218623943512802 : True := ⟨⟩
theorem tw12425085872883035938 : True := ⟨⟩
theorem tw4392038535549328194 : True := ⟨⟩
theorem tw17103177528636943170 : True := ⟨⟩
theorem tw13633771914396775234 : True := ⟨⟩
theorem tw16878204669230926818 : True := ⟨⟩
theorem tw2988451766255067171 : True := ⟨⟩
theorem tw14263998999751124003 : True := ⟨⟩
theorem tw8321918168302905379 : True := ⟨⟩
theorem tw2665807947273092163 : True := ⟨⟩
theorem tw14235281626263879747 : True := ⟨⟩
theorem tw9961057766049560675 : True := ⟨⟩
theorem tw9503340733035011235 : True := ⟨⟩
theorem tw10414433010598505635 : True := ⟨⟩
theorem tw8311017846404947139 : True := ⟨⟩
theorem tw6756868429301003459 : True := ⟨⟩
theorem tw4010397242664982755 : True := ⟨⟩
theorem tw15687709949711836451 : True := ⟨⟩
theorem tw1212798325632107971 : True := ⟨⟩
theorem tw10936122117785486979 : True := ⟨⟩
theorem tw3871027444623705763 : True := ⟨⟩
theorem tw17474498911051797155 : True := ⟨⟩
theorem tw9149571693438533347 : True := ⟨⟩
theorem tw14632489290957082403 : True := ⟨⟩
theorem tw15740088241188596515 : True := ⟨⟩
theorem tw14796646475526232899 : True := ⟨⟩
theorem tw13305523845174962083 : True := ⟨⟩
theorem tw1297684725254868899 : True := ⟨⟩
theorem tw16054190913257422852 : True := ⟨⟩
theorem tw7847352863974893604 : True := ⟨⟩
theorem tw14608685727046917156 : True := ⟨⟩
theorem tw6292954644110606532 : True := ⟨⟩
theorem tw12787338502077490372 : True := ⟨⟩
theorem tw15212760480394562756 : True := ⟨⟩
theorem tw14450715343900746980 : True := ⟨⟩
theorem tw8281120267493503204 : True := ⟨⟩
theorem tw13710211086531791108 : True := ⟨⟩
theorem tw401921906979044612 : True := ⟨⟩
theorem tw16541100652227675460 : True := ⟨⟩
theorem tw146815374380898660 : True := ⟨⟩
theorem tw4909286810050342244 : True := ⟨⟩
theorem tw1717825165581474212 : True := ⟨⟩
theorem tw15525995667512963556 : True := ⟨⟩
theorem tw12764151676501842404 : True := ⟨⟩
theorem tw16058212318047004132 : True := ⟨⟩
theorem tw370947364307004932 : True := ⟨⟩
theorem tw12483720753089274532 : True := ⟨⟩
theorem tw18064794426631996164 : True := ⟨⟩
theorem tw9648294306425612132 : True := ⟨⟩
theorem tw7671549972530922468 : True := ⟨⟩
theorem tw4656485037274611717 : True := ⟨⟩
theorem tw15646934709686841381 : True := ⟨⟩
theorem tw17810072253543177317 : True := ⟨⟩
theorem tw6505410396798821541 : True := ⟨⟩
theorem tw3796891538752321733 : True := ⟨⟩
theorem tw3019106374644219109 : True := ⟨⟩
theorem tw3477822673542525157 : True := ⟨⟩
theorem tw8892184565913893157 : True := ⟨⟩
theorem tw2685012915969955173 : True := ⟨⟩
theorem tw13001836021917841797 : True := ⟨⟩
theorem tw9227541089923242437 : True := ⟨⟩
theorem tw3976154599441133093 : True := ⟨⟩
theorem tw81815255157605957 : True := ⟨⟩
theorem tw196536941598035525 : True := ⟨⟩
theorem tw7313339093194340965 : True := ⟨⟩
theorem tw8212240652046128837 : True := ⟨⟩
theorem tw9059832203979395877 : True := ⟨⟩
theorem tw9685713192446186341 : True := ⟨⟩
theorem tw8363718466572441477 : True := ⟨⟩
theorem tw3669314199184481253 : True := ⟨⟩
theorem tw10006222313960134694 : True := ⟨⟩
theorem tw4840481374290595910 : True := ⟨⟩
theorem tw6520327441239513222 : True := ⟨⟩
theorem tw13501252493785611398 : True := ⟨⟩
theorem tw3140898538269762758 : True := ⟨⟩
theorem tw297971269722091814 : True := ⟨⟩
theorem tw6749217079512962374 : True := ⟨⟩
theorem tw8435561252592420358 : True := ⟨⟩
theorem tw10617020205504526918 : True := ⟨⟩
theorem tw18186074749648716422 : True := ⟨⟩
theorem tw8420165910927482534 : True := ⟨⟩
theorem tw7715697345341360870 : True := ⟨⟩
theorem tw9614876229902214918 : True := ⟨⟩
theorem tw14526540143163920134 : True := ⟨⟩
theorem tw12197428465977751366 : True := ⟨⟩
theorem tw4835499133494076262 : True := ⟨⟩
theorem tw14671331368771545958 : True := ⟨⟩
theorem tw5860347150701562758 : True := ⟨⟩
theorem tw2506305409684761478 : True := ⟨⟩
theorem tw10783980745131425670 : True := ⟨⟩
theorem tw3195968871104189447 : True := ⟨⟩
theorem tw6491118196486620199 : True := ⟨⟩
theorem tw860223938195835975 : True := ⟨⟩
theorem tw11459358961799972967 : True := ⟨⟩
theorem tw12256363837256957063 : True := ⟨⟩
theorem tw953821971998124167 : True := ⟨⟩
theorem tw8043003576528973991 : True := ⟨⟩
theorem tw53344730913325255 : True := ⟨⟩
theorem tw11443710868159068359 : True := ⟨⟩
theorem tw1697544655201012999 : True := ⟨⟩
theorem tw9759319705405543751 : True := ⟨⟩
theorem tw6176384092110617959 : True := ⟨⟩
theorem tw2731995056826638727 : True := ⟨⟩
theorem tw6864213589057432999 : True := ⟨⟩
theorem tw6286779285267259847 : True := ⟨⟩
theorem tw9165953624949470791 : True := ⟨⟩
theorem tw12545222027267286695 : True := ⟨⟩
theorem tw6883741973766446791 : True := ⟨⟩
theorem tw1209819496270969543 : True := ⟨⟩
theorem tw10864713392326063847 : True := ⟨⟩
theorem tw13090165191389475591 : True := ⟨⟩
theorem tw13968125046926948103 : True := ⟨⟩
theorem tw12819366960792805191 : True := ⟨⟩
theorem tw13385244156195431271 : True := ⟨⟩
theorem tw10361075674979980167 : True := ⟨⟩
theorem tw12317137736924338119 : True := ⟨⟩
theorem tw14145802354927516647 : True := ⟨⟩
theorem tw7657828476027519975 : True := ⟨⟩
theorem tw5244899138074338376 : True := ⟨⟩
theorem tw3484022092364678248 : True := ⟨⟩
theorem tw13994475860397038760 : True := ⟨⟩
theorem tw16439428074185983240 : True := ⟨⟩
theorem tw13864677062968915208 : True := ⟨⟩
theorem tw708234853630380328 : True := ⟨⟩
theorem tw4205137553216949640 : True := ⟨⟩
theorem tw18063644159110109576 : True := ⟨⟩
theorem tw83393220934416808 : True := ⟨⟩
theorem tw6370870915552960936 : True := ⟨⟩
theorem tw1486479319815781832 : True := ⟨⟩
theorem tw12622177474791663080 : True := ⟨⟩
theorem tw12638030207367898728 : True := ⟨⟩
theorem tw10657950659306570408 : True := ⟨⟩
theorem tw5667650583090716360 : True := ⟨⟩
theorem tw2249405535684624136 : True := ⟨⟩
theorem tw5369755611852500808 : True := ⟨⟩
theorem tw6042063481754889096 : True := ⟨⟩
theorem tw4916261283513009128 : True := ⟨⟩
theorem tw6906291655842520137 : True := ⟨⟩
theorem tw15878805988109762761 : True := ⟨⟩
theorem tw10548783162686979305 : True := ⟨⟩
theorem tw15860264024139754761 : True := ⟨⟩
theorem tw13303987763403120937 : True := ⟨⟩
theorem tw17103585973383926153 : True := ⟨⟩
theorem tw2580922434103091657 : True := ⟨⟩
theorem tw6786057226368545225 : True := ⟨⟩
theorem tw6572522305180300745 : True := ⟨⟩
theorem tw16123964013534891561 : True := ⟨⟩
theorem tw4555866861457887817 : True := ⟨⟩
theorem tw16782997733028217545 : True := ⟨⟩
theorem tw8637452081102412489 : True := ⟨⟩
theorem tw7845129631348957993 : True := ⟨⟩
theorem tw9326722878772556681 : True := ⟨⟩
theorem tw17788931634197215145 : True := ⟨⟩
theorem tw12519573946865146793 : True := ⟨⟩
theorem tw4671429814451907529 : True := ⟨⟩
theorem tw7855079511596107753 : True := ⟨⟩
theorem tw10915162052029792233 : True := ⟨⟩
theorem tw2770239361232196585 : True := ⟨⟩
theorem tw13187519465064655849 : True := ⟨⟩
theorem tw8622502720953521162 : True := ⟨⟩
theorem tw9990226795618131978 : True := ⟨⟩
theorem tw339143206060000330 : True := ⟨⟩
theorem tw2732273902793177162 : True := ⟨⟩
theorem tw8729362747519067210 : True := ⟨⟩
theorem tw9059672392935016618 : True := ⟨⟩
theorem tw2228507204995602602 : True := ⟨⟩
theorem tw12166907935582030026 : True := ⟨⟩
theorem tw10187724287525710026 : True := ⟨⟩
theorem tw8523463495250067690 : True := ⟨⟩
theorem tw7204493036743257322 : True := ⟨⟩
theorem tw14317375437502057738 : True := ⟨⟩
theorem tw9233715247699887402 : True := ⟨⟩
theorem tw342308947776675178 : True := ⟨⟩
theorem tw6885214360128481674 : True := ⟨⟩
theorem tw501154541418245514 : True := ⟨⟩
theorem tw15976228082101565994 : True := ⟨⟩
theorem tw8184561461823581802 : True := ⟨⟩
theorem tw12357524464438376042 : True := ⟨⟩
theorem tw17085176360113175178 : True := ⟨⟩
theorem tw17469865338272021226 : True := ⟨⟩
theorem tw13889309363888878346 : True := ⟨⟩
theorem tw1655259298481077034 : True := ⟨⟩
theorem tw16068562728529669930 : True := ⟨⟩
theorem tw1321871150748368714 : True := ⟨⟩
theorem tw14724332232928298890 : True := ⟨⟩
theorem tw8443935842833279946 : True := ⟨⟩
theorem tw9951221954081769418 : True := ⟨⟩
theorem tw5513142621748847562 : True := ⟨⟩
theorem tw6624316729101989866 : True := ⟨⟩
theorem tw15229573370884232203 : True := ⟨⟩
theorem tw14248925298954806443 : True := ⟨⟩
theorem tw6919701780365589675 : True := ⟨⟩
theorem tw13370750898655102155 : True := ⟨⟩
theorem tw2683898200743741643 : True := ⟨⟩
theorem tw4828031223510198475 : True := ⟨⟩
theorem tw6431110157172167083 : True := ⟨⟩
theorem tw13706816188851595723 : True := ⟨⟩
theorem tw6430265229019958763 : True := ⟨⟩
theorem tw7587601194962177611 : True := ⟨⟩
theorem tw6674990990233134667 : True := ⟨⟩
theorem tw10906321828192756331 : True := ⟨⟩
theorem tw16415559393655328363 : True := ⟨⟩
theorem tw13272337422414781067 : True := ⟨⟩
theorem tw1522322319653140107 : True := ⟨⟩
theorem tw8140125068956082859 : True := ⟨⟩
theorem tw956942650209027819 : True := ⟨⟩
theorem tw14282377253939248939 : True := ⟨⟩
theorem tw15271675978053873483 : True := ⟨⟩
theorem tw9962302188120564619 : True := ⟨⟩
theorem tw9233335307524088747 : True := ⟨⟩
theorem tw13713866747541496747 : True := ⟨⟩
theorem tw9227057690007400460 : True := ⟨⟩
theorem tw5915399644114372684 : True := ⟨⟩
theorem tw2443449257678562572 : True := ⟨⟩
theorem tw17470836177267949868 : True := ⟨⟩
theorem tw5609151216138764652 : True := ⟨⟩
theorem tw3969286963782609292 : True := ⟨⟩
theorem tw17046948494117081484 : True := ⟨⟩
theorem tw3331421620988305804 : True := ⟨⟩
theorem tw5240762971458559404 : True := ⟨⟩
theorem tw13799840507378627052 : True := ⟨⟩
theorem tw9195894827357321740 : True := ⟨⟩
theorem tw6503730183909636620 : True := ⟨⟩
theorem tw93012567124736588 : True := ⟨⟩
theorem tw11542710104232473196 : True := ⟨⟩
theorem tw17781115878593249900 : True := ⟨⟩
theorem tw3254097082911018636 : True := ⟨⟩
theorem tw15484318188022702764 : True := ⟨⟩
theorem tw4951766788466123468 : True := ⟨⟩
theorem tw12958664272152378060 : True := ⟨⟩
theorem tw10404823597219466188 : True := ⟨⟩
theorem tw2365566498512967660 : True := ⟨⟩
theorem tw6240723676877644813 : True := ⟨⟩
theorem tw14453841093610474573 : True := ⟨⟩
theorem tw13822267516522204269 : True := ⟨⟩
theorem tw16174758807025615021 : True := ⟨⟩
theorem tw7527032243904285869 : True := ⟨⟩
theorem tw17555251805378815213 : True := ⟨⟩
theorem tw1112988674713690477 : True := ⟨⟩
theorem tw3479634599624807885 : True := ⟨⟩
theorem tw4047667213573674445 : True := ⟨⟩
theorem tw11279283689885193741 : True := ⟨⟩
theorem tw283044589724301 : True := ⟨⟩
theorem tw4940147422707163885 : True := ⟨⟩
theorem tw16719718919923625709 : True := ⟨⟩
theorem tw1814787853859245837 : True := ⟨⟩
theorem tw1868085287545692973 : True := ⟨⟩
theorem tw17964300760807480141 : True := ⟨⟩
theorem tw8265191368974092141 : True := ⟨⟩
theorem tw672699306608606093 : True := ⟨⟩
theorem tw10574840078274726829 : True := ⟨⟩
theorem tw661290744650703789 : True := ⟨⟩
theorem tw12427389293880184781 : True := ⟨⟩
theorem tw14502225709538309166 : True := ⟨⟩
theorem tw12385144161495827662 : True := ⟨⟩
theorem tw6203543418390704334 : True := ⟨⟩
theorem tw2809488002615124206 : True := ⟨⟩
theorem tw8472579005086612782 : True := ⟨⟩
theorem tw12209182163369298222 : True := ⟨⟩
theorem tw15451780782824253742 : True := ⟨⟩
theorem tw7297446738713254254 : True := ⟨⟩
theorem tw2544169868661182894 : True := ⟨⟩
theorem tw2462062305354472974 : True := ⟨⟩
theorem tw15240379268576122478 : True := ⟨⟩
theorem tw1803303928475200142 : True := ⟨⟩
theorem tw6124053682588569230 : True := ⟨⟩
theorem tw7485681525954075278 : True := ⟨⟩
theorem tw17542608870123051758 : True := ⟨⟩
theorem tw15299407806266782574 : True := ⟨⟩
theorem tw15503665604740900718 : True := ⟨⟩
theorem tw12958502747184954254 : True := ⟨⟩
theorem tw15985961358823992270 : True := ⟨⟩
theorem tw5938664839603501006 : True := ⟨⟩
theorem tw17176029603704830031 : True := ⟨⟩
theorem tw18185382058313985135 : True := ⟨⟩
theorem tw6898770573198911631 : True := ⟨⟩
theorem tw11334350811105764591 : True := ⟨⟩
theorem tw1123975283337734383 : True := ⟨⟩
theorem tw14697636140705633519 : True := ⟨⟩
theorem tw17565814175750979855 : True := ⟨⟩
theorem tw8560541052185303311 : True := ⟨⟩
theorem tw381845443943030031 : True := ⟨⟩
theorem tw16900427199656544559 : True := ⟨⟩
theorem tw9631074621892390191 : True := ⟨⟩
theorem tw5596365628329696591 : True := ⟨⟩
theorem tw4655869559712951663 : True := ⟨⟩
theorem tw13326734554550294991 : True := ⟨⟩
theorem tw9913501989792142831 : True := ⟨⟩
theorem tw9590735534726013551 : True := ⟨⟩
theorem tw2103985501979894447 : True := ⟨⟩
theorem tw8369368087495890639 : True := ⟨⟩
theorem tw5581607755468803823 : True := ⟨⟩
theorem tw46980244435833615 : True := ⟨⟩
theorem tw10567129059001840431 : True := ⟨⟩
theorem tw10296497611174029103 : True := ⟨⟩
theorem tw11762496359356365647 : True := ⟨⟩
theorem tw2126296398998916975 : True := ⟨⟩
theorem tw352232786441526191 : True := ⟨⟩
theorem tw9378254376102152143 : True := ⟨⟩
theorem tw1040915598704419856 : True := ⟨⟩
theorem tw4186445540838780016 : True := ⟨⟩
theorem tw1843344800811705456 : True := ⟨⟩
theorem tw12392516345856041104 : True := ⟨⟩
theorem tw6893477703608230032 : True := ⟨⟩
theorem tw3664424711883983056 : True := ⟨⟩
theorem tw11982747722937265360 : True := ⟨⟩
theorem tw7414872774492366064 : True := ⟨⟩
theorem tw104434173382791472 : True := ⟨⟩
theorem tw9382581127745807760 : True := ⟨⟩
theorem tw1585457916280141200 : True := ⟨⟩
theorem tw8735323631387419056 : True := ⟨⟩
theorem tw7292864349241787824 : True := ⟨⟩
theorem tw17576949682797635024 : True := ⟨⟩
theorem tw7273676953221729872 : True := ⟨⟩
theorem tw602653604445443664 : True := ⟨⟩
theorem tw2968346561183084112 : True := ⟨⟩
theorem tw14537839394382259888 : True := ⟨⟩
theorem tw8410488445778877200 : True := ⟨⟩
theorem tw15095372191486117680 : True := ⟨⟩
theorem tw4383139521930768336 : True := ⟨⟩
theorem tw7429413206186439793 : True := ⟨⟩
theorem tw2926424126403749041 : True := ⟨⟩
theorem tw3820434133910038737 : True := ⟨⟩
theorem tw18086089286151905521 : True := ⟨⟩
theorem tw10996937224433265937 : True := ⟨⟩
theorem tw1245559373397905713 : True := ⟨⟩
theorem tw7250933059871147345 : True := ⟨⟩
theorem tw14597223018079223185 : True := ⟨⟩
theorem tw7913636548009798097 : True := ⟨⟩
theorem tw17828378304095215089 : True := ⟨⟩
theorem tw11457754044182789617 : True := ⟨⟩
theorem tw9305691244287143441 : True := ⟨⟩
theorem tw2835187731363253809 : True := ⟨⟩
theorem tw8693662901424576113 : True := ⟨⟩
theorem tw1706793611546318481 : True := ⟨⟩
theorem tw9166809390415177425 : True := ⟨⟩
theorem tw5225153198818245361 : True := ⟨⟩
theorem tw2446451932059125521 : True := ⟨⟩
theorem tw9335426496214029073 : True := ⟨⟩
theorem tw13307591127769906961 : True := ⟨⟩
theorem tw18008055252877512497 : True := ⟨⟩
theorem tw2822501910515967889 : True := ⟨⟩
theorem tw4076138812419527698 : True := ⟨⟩
theorem tw908825868028484722 : True := ⟨⟩
theorem tw987869383939708018 : True := ⟨⟩
theorem tw16597617366809209970 : True := ⟨⟩
theorem tw9259421805112917234 : True := ⟨⟩
theorem tw3855276242980373810 : True := ⟨⟩
theorem tw2907113945770861938 : True := ⟨⟩
theorem tw15877122091014420850 : True := ⟨⟩
theorem tw14657780768301432306 : True := ⟨⟩
theorem tw427420600052151026 : True := ⟨⟩
theorem tw8645369167282567922 : True := ⟨⟩
theorem tw705360758644809490 : True := ⟨⟩
theorem tw13261893007816960818 : True := ⟨⟩
theorem tw10987319290404115282 : True := ⟨⟩
theorem tw15092371282622821202 : True := ⟨⟩
theorem tw10090393231696489298 : True := ⟨⟩
theorem tw8025738503920905074 : True := ⟨⟩
theorem tw2619622883677149074 : True := ⟨⟩
theorem tw8148004212497801138 : True := ⟨⟩
theorem tw4699463449715708850 : True := ⟨⟩
theorem tw16795567611416646642 : True := ⟨⟩
theorem tw887695700811335699 : True := ⟨⟩
theorem tw12216891806147817523 : True := ⟨⟩
theorem tw5507162329139097715 : True := ⟨⟩
theorem tw9229161468869434483 : True := ⟨⟩
theorem tw2007660962349395123 : True := ⟨⟩
theorem tw16204670001084760307 : True := ⟨⟩
theorem tw5088376156974544275 : True := ⟨⟩
theorem tw11133666699803404755 : True := ⟨⟩
theorem tw6662652255960138227 : True := ⟨⟩
theorem tw2730760306732684819 : True := ⟨⟩
theorem tw5398424786039705171 : True := ⟨⟩
theorem tw12887107875299966611 : True := ⟨⟩
theorem tw13420762306968818387 : True := ⟨⟩
theorem tw9843949296442739443 : True := ⟨⟩
theorem tw12117888159696746259 : True := ⟨⟩
theorem tw5278709424875269971 : True := ⟨⟩
theorem tw7160873610591055699 : True := ⟨⟩
theorem tw1492452104121835379 : True := ⟨⟩
theorem tw8874702517807110003 : True := ⟨⟩
theorem tw17486766287000646611 : True := ⟨⟩
theorem tw7743179893348639699 : True := ⟨⟩
theorem tw12643491718579748851 : True := ⟨⟩
theorem tw4526881389914513428 : True := ⟨⟩
theorem tw1676862907878916244 : True := ⟨⟩
theorem tw15918733279669447828 : True := ⟨⟩
theorem tw13975414291046593716 : True := ⟨⟩
theorem tw1394568958698188020 : True := ⟨⟩
theorem tw9442318146202087700 : True := ⟨⟩
theorem tw84136930442132756 : True := ⟨⟩
theorem tw14789260269991461300 : True := ⟨⟩
theorem tw17022078359063049780 : True := ⟨⟩
theorem tw11760055953109336660 : True := ⟨⟩
theorem tw1284575025550258836 : True := ⟨⟩
theorem tw16759092144687519636 : True := ⟨⟩
theorem tw6694047246710070196 : True := ⟨⟩
theorem tw6265701101103706036 : True := ⟨⟩
theorem tw13983857475226248213 : True := ⟨⟩
theorem tw4784893810139332661 : True := ⟨⟩
theorem tw4796303294375832693 : True := ⟨⟩
theorem tw6664487174759623829 : True := ⟨⟩
theorem tw10562855833978642645 : True := ⟨⟩
theorem tw7008692893051332821 : True := ⟨⟩
theorem tw18374746225686918389 : True := ⟨⟩
theorem tw8817415213059835157 : True := ⟨⟩
theorem tw4791253341166991637 : True := ⟨⟩
theorem tw3739144386018749749 : True := ⟨⟩
theorem tw13549259019975226677 : True := ⟨⟩
theorem tw11960245374511038805 : True := ⟨⟩
theorem tw1988063486488863061 : True := ⟨⟩
theorem tw7386116660499605909 : True := ⟨⟩
theorem tw2220570432770164149 : True := ⟨⟩
theorem tw575894324575664597 : True := ⟨⟩
theorem tw4213018616267185653 : True := ⟨⟩
theorem tw11203750815551599093 : True := ⟨⟩
theorem tw18371284783138465269 : True := ⟨⟩
theorem tw72247145696351765 : True := ⟨⟩
theorem tw10797620697341660853 : True := ⟨⟩
theorem tw4058662728301269685 : True := ⟨⟩
theorem tw864819663365544661 : True := ⟨⟩
theorem tw350670483859837877 : True := ⟨⟩
theorem tw17342085116792181814 : True := ⟨⟩
theorem tw13044034144603486326 : True := ⟨⟩
theorem tw9800703332001039478 : True := ⟨⟩
theorem tw8265311939077410998 : True := ⟨⟩
theorem tw828460304391194870 : True := ⟨⟩
theorem tw5597187220613765494 : True := ⟨⟩
theorem tw17346259052997144950 : True := ⟨⟩
theorem tw11116745826364501430 : True := ⟨⟩
theorem tw5648408011753718230 : True := ⟨⟩
theorem tw13264354339760550358 : True := ⟨⟩
theorem tw4736427724481360342 : True := ⟨⟩
theorem tw15362295582089109014 : True := ⟨⟩
theorem tw9366391650621772374 : True := ⟨⟩
theorem tw15638586536077026902 : True := ⟨⟩
theorem tw15169761463676818070 : True := ⟨⟩
theorem tw8694864300669457046 : True := ⟨⟩
theorem tw1195175773429642966 : True := ⟨⟩
theorem tw4166218997396506358 : True := ⟨⟩
theorem tw8657480035899644758 : True := ⟨⟩
theorem tw3584897518013459382 : True := ⟨⟩
theorem tw2985252069258134486 : True := ⟨⟩
theorem tw10194810499950245846 : True := ⟨⟩
theorem tw6438537300738474071 : True := ⟨⟩
theorem tw11053662475850362967 : True := ⟨⟩
theorem tw14466935161476858967 : True := ⟨⟩
theorem tw17492772389151264855 : True := ⟨⟩
theorem tw11487705115161347191 : True := ⟨⟩
theorem tw620129878449983639 : True := ⟨⟩
theorem tw7458633546980236471 : True := ⟨⟩
theorem tw16885616592811714743 : True := ⟨⟩
theorem tw12318557346453588183 : True := ⟨⟩
theorem tw7204998973626084599 : True := ⟨⟩
theorem tw3712731000106771831 : True := ⟨⟩
theorem tw7381879191629600215 : True := ⟨⟩
theorem tw3788076851680717271 : True := ⟨⟩
theorem tw880935087679569431 : True := ⟨⟩
theorem tw3120133295221510679 : True := ⟨⟩
theorem tw16264823338695392855 : True := ⟨⟩
theorem tw4299629679881509495 : True := ⟨⟩
theorem tw15349318334595610263 : True := ⟨⟩
theorem tw8139039716903228087 : True := ⟨⟩
theorem tw7830913209206220567 : True := ⟨⟩
theorem tw15722756333993289495 : True := ⟨⟩
theorem tw3561193834555079511 : True := ⟨⟩
theorem tw5868845118606482295 : True := ⟨⟩
theorem tw5245862010334584759 : True := ⟨⟩
theorem tw7717422617530326040 : True := ⟨⟩
theorem tw4331257952254489624 : True := ⟨⟩
theorem tw17594962761535629368 : True := ⟨⟩
theorem tw9843447840031818808 : True := ⟨⟩
theorem tw10008474027749305400 : True := ⟨⟩
theorem tw11199710921928265848 : True := ⟨⟩
theorem tw1139600151236580504 : True := ⟨⟩
theorem tw6383614241601562808 : True := ⟨⟩
theorem tw9063741608606530840 : True := ⟨⟩
theorem tw2812155379371279736 : True := ⟨⟩
theorem tw12783364522390391256 : True := ⟨⟩
theorem tw4551080515912023512 : True := ⟨⟩
theorem tw13500427573557490136 : True := ⟨⟩
theorem tw9768079942903668216 : True := ⟨⟩
theorem tw8107780213005350392 : True := ⟨⟩
theorem tw2617719716777270872 : True := ⟨⟩
theorem tw1149218181149386328 : True := ⟨⟩
theorem tw8810280945414196856 : True := ⟨⟩
theorem tw18164388396756303480 : True := ⟨⟩
theorem tw6746510453823603384 : True := ⟨⟩
theorem tw16713831800681072344 : True := ⟨⟩
theorem tw6572447435987645144 : True := ⟨⟩
theorem tw2617181576586992344 : True := ⟨⟩
theorem tw3995942328266245912 : True := ⟨⟩
theorem tw9516688046558066552 : True := ⟨⟩
theorem tw17886615442053742456 : True := ⟨⟩
theorem tw2722852734226103192 : True := ⟨⟩
theorem tw5889316905344633881 : True := ⟨⟩
theorem tw11546936639936008217 : True := ⟨⟩
theorem tw6908635100366463001 : True := ⟨⟩
theorem tw16273406610938067001 : True := ⟨⟩
theorem tw17030962893124633753 : True := ⟨⟩
theorem tw2596539476470345881 : True := ⟨⟩
theorem tw4695670854781333657 : True := ⟨⟩
theorem tw10001883323181062329 : True := ⟨⟩
theorem tw11072019736110318841 : True := ⟨⟩
theorem tw18257218023933744409 : True := ⟨⟩
theorem tw9851269098105209369 : True := ⟨⟩
theorem tw8327351992414209593 : True := ⟨⟩
theorem tw17741875731164886585 : True := ⟨⟩
theorem tw14349089067433371257 : True := ⟨⟩
theorem tw18394268562011335289 : True := ⟨⟩
theorem tw795583310449317561 : True := ⟨⟩
theorem tw3874152929960365753 : True := ⟨⟩
theorem tw11466170419677230873 : True := ⟨⟩
theorem tw16325430554902658873 : True := ⟨⟩
theorem tw9178861053002065721 : True := ⟨⟩
theorem tw6659320528611288953 : True := ⟨⟩
theorem tw16196420915677631385 : True := ⟨⟩
theorem tw1147548669246485465 : True := ⟨⟩
theorem tw5176459694589498394 : True := ⟨⟩
theorem tw11199532085631943738 : True := ⟨⟩
theorem tw6973401727384321114 : True := ⟨⟩
theorem tw7681529838311687354 : True := ⟨⟩
theorem tw6451443466077778170 : True := ⟨⟩
theorem tw17620759639134147866 : True := ⟨⟩
theorem tw10079171474624433434 : True := ⟨⟩
theorem tw1047907039808853306 : True := ⟨⟩
theorem tw14823308797102314842 : True := ⟨⟩
theorem tw10448899703829047738 : True := ⟨⟩
theorem tw411662067469150650 : True := ⟨⟩
theorem tw9673933992889287130 : True := ⟨⟩
theorem tw5105846836358774362 : True := ⟨⟩
theorem tw1108800333578037850 : True := ⟨⟩
theorem tw5702910450625016506 : True := ⟨⟩
theorem tw16420938139371093754 : True := ⟨⟩
theorem tw17219337458794519322 : True := ⟨⟩
theorem tw1886144042066472794 : True := ⟨⟩
theorem tw4713442408853163898 : True := ⟨⟩
theorem tw13068111086705522682 : True := ⟨⟩
theorem tw427269002284569659 : True := ⟨⟩
theorem tw14983691940233647259 : True := ⟨⟩
theorem tw4773702212245658779 : True := ⟨⟩
theorem tw17089494485692210459 : True := ⟨⟩
theorem tw17981982808018919739 : True := ⟨⟩
theorem tw995497684801637723 : True := ⟨⟩
theorem tw10017263926548143515 : True := ⟨⟩
theorem tw4134505453457115739 : True := ⟨⟩
theorem tw16821654228018055803 : True := ⟨⟩
theorem tw3337584539547039419 : True := ⟨⟩
theorem tw7059692629156357883 : True := ⟨⟩
theorem tw11858546649754279707 : True := ⟨⟩
theorem tw6127594578889010139 : True := ⟨⟩
theorem tw13134186033006778460 : True := ⟨⟩
theorem tw11334415319851112604 : True := ⟨⟩
theorem tw6912233166142098652 : True := ⟨⟩
theorem tw18245740138792012028 : True := ⟨⟩
theorem tw15286249088069653756 : True := ⟨⟩
theorem tw2377541652452675900 : True := ⟨⟩
theorem tw14826035006057030972 : True := ⟨⟩
theorem tw13928562000808390012 : True := ⟨⟩
theorem tw1869187583165140508 : True := ⟨⟩
theorem tw12376051458212225564 : True := ⟨⟩
theorem tw13802547742096326172 : True := ⟨⟩
theorem tw4321519831107876412 : True := ⟨⟩
theorem tw10195997230039290492 : True := ⟨⟩
theorem tw2727672472851901052 : True := ⟨⟩
theorem tw4807692442873511580 : True := ⟨⟩
theorem tw13890846271309207196 : True := ⟨⟩
theorem tw16453443671601555132 : True := ⟨⟩
theorem tw216529984938456764 : True := ⟨⟩
theorem tw1088946173253831356 : True := ⟨⟩
theorem tw2967798162736962236 : True := ⟨⟩
theorem tw15361541807878343388 : True := ⟨⟩
theorem tw1124271682379634556 : True := ⟨⟩
theorem tw18034075008235765660 : True := ⟨⟩
theorem tw3776753064480771068 : True := ⟨⟩
theorem tw4547018644641229820 : True := ⟨⟩
theorem tw956089473029861405 : True := ⟨⟩
theorem tw11240886729373846589 : True := ⟨⟩
theorem tw5155950481276406077 : True := ⟨⟩
theorem tw2782073688633401757 : True := ⟨⟩
theorem tw2057334267981633021 : True := ⟨⟩
theorem tw5692499903750754813 : True := ⟨⟩
theorem tw17355269125676882429 : True := ⟨⟩
theorem tw13899568491130100285 : True := ⟨⟩
theorem tw10773188271377071773 : True := ⟨⟩
theorem tw7325726471975496349 : True := ⟨⟩
theorem tw16155163154822807229 : True := ⟨⟩
theorem tw18177719399980262173 : True := ⟨⟩
theorem tw3730354652608582461 : True := ⟨⟩
theorem tw11423202765487971197 : True := ⟨⟩
theorem tw15786856763048480637 : True := ⟨⟩
theorem tw1833847959688406909 : True := ⟨⟩
theorem tw47109162367338493 : True := ⟨⟩
theorem tw14901070454687303710 : True := ⟨⟩
theorem tw18237780215024852062 : True := ⟨⟩
theorem tw14851680436948445374 : True := ⟨⟩
theorem tw14747140909534839006 : True := ⟨⟩
theorem tw6930518751129746686 : True := ⟨⟩
theorem tw8968299171318014206 : True := ⟨⟩
theorem tw10579768621468169598 : True := ⟨⟩
theorem tw9108098604805947806 : True := ⟨⟩
theorem tw4130257501236552094 : True := ⟨⟩
theorem tw6859976401760118174 : True := ⟨⟩
theorem tw10956490626425055710 : True := ⟨⟩
theorem tw788273225186049534 : True := ⟨⟩
theorem tw5118827330378232414 : True := ⟨⟩
theorem tw3486219094355674750 : True := ⟨⟩
theorem tw105208000716104510 : True := ⟨⟩
theorem tw13889484949932952446 : True := ⟨⟩
theorem tw2867133514656366558 : True := ⟨⟩
theorem tw5983031951866500094 : True := ⟨⟩
theorem tw15058813355848621054 : True := ⟨⟩
theorem tw2267912224990424062 : True := ⟨⟩
theorem tw14371913498598963198 : True := ⟨⟩
theorem tw14390669486469195807 : True := ⟨⟩
theorem tw1754339480302792767 : True := ⟨⟩
theorem tw7990429038631628895 : True := ⟨⟩
theorem tw17428532607074087071 : True := ⟨⟩
theorem tw6187478851450931391 : True := ⟨⟩
theorem tw2464713573024523455 : True := ⟨⟩
theorem tw14771320824794740959 : True := ⟨⟩
theorem tw10341860258655708415 : True := ⟨⟩
theorem tw13852830345959847167 : True := ⟨⟩
theorem tw1381835654847214879 : True := ⟨⟩
theorem tw11584198869435930015 : True := ⟨⟩
theorem tw11279390925490393535 : True := ⟨⟩
theorem tw9589608677651300831 : True := ⟨⟩
theorem tw14762295962024373759 : True := ⟨⟩
theorem tw5766051744304087583 : True := ⟨⟩
theorem tw6448850889433096767 : True := ⟨⟩
theorem tw12094960947251128927 : True := ⟨⟩
theorem tw453181688931711583 : True := ⟨⟩
theorem tw17582957951858275007 : True := ⟨⟩
theorem tw8999917154711486175 : True := ⟨⟩
theorem tw13369591340354186047 : True := ⟨⟩
theorem tw10399464001100048223 : True := ⟨⟩
theorem tw3207569582813703071 : True := ⟨⟩
theorem tw5839659824258004927 : True := ⟨⟩
theorem tw3548060758652744671 : True := ⟨⟩
theorem tw16455539670658728510 : True := ⟨⟩
end Mine.top
end

section
theorem Mine.good_end {c : ClaimW} {cl : Str → Option Addr} {mean : ExcName → Option Value} {args : List WData} {s₁ s' : Shared} (hn : ∀ cls, c.raises args cls = false) (hp : c.post args (.bool true) args = true)
    (k : ∀ b o, s₁.heap.get? b = some o → s'.heap.get? b = some o) (hos : s'.os = s₁.os) (hg : s'.gens = #[]) : GoodW c cl mean args s₁ (.ok (.ret (.bool true))) s' :=
  ⟨.inl ⟨_, _, [], rfl, hn, .bool true, hp, unshared_nil⟩, k, hos, hg⟩
theorem Mine.post_true {r : RowW} {args : List WData} (h1 : r.returns = .bool) (h2 : r.post = .eq .res (.lit (.bool true))) : r.claim.post args (.bool true) args = true := by
  refine postW_of (X := true) (by rw [h1]; rfl) ?_ rfl
  rw [h2]
  simp [WTm.value]
  first | rfl | (simp [same]; done) | (simp [W.same]; done) | decide
theorem Mine.sub_in {K K' : Frag} {b : Heap} (h : K'.In b) (e : (K.map fun p => K'.lookup p.1) = K.map fun p => some p.2) : K.In b := fun a o hl =>
  h a o (List.map_inj_left.mp e (a, o) (Mine.lookup_mem hl))
set_option Elab.async true in
set_option maxHeartbeats 0 in
theorem Mine.top : PySem.Challenge.rw_nm0158_02.Holds := by
  w_on; o_law; k_head
  (case hw => w_witness2)
  w_strict (
    k_fill
    intro w s₀ s₁ mg mb G Y fa o pm cd doc dV kV ho hd hcd hD hmg hg args vals as hpre hlay hrd hwl hlo
    have KX := Mine.sub_in (K := Mine.KK w.params) (kIn_of Y) (by kernel_rfl)
    have T := G.T
    wrow_args hpre hlay hrd hwl hlo
    clear G Y ho hd hcd hD
    rename (Well _ _ _ _) => w1
    refine enter_call ?_
    refine Mine.run_top (topRead_of T) KX hmg ?_ w1 fun s' k hos hgs => GoodW.toG (Mine.good_end ?_ ?_ k hos (hgs.trans hg))
    · omega
    · intro cls; rfl
    · exact Mine.post_true rfl rfl)
theorem PySem.Challenge.cw_nm0158_02_holds : PySem.Challenge.rw_nm0158_02.Holds :=
  Mine.top
end

