import PyProof.Rows.All
import Wide.All
import OpenK.AllK
import Wide.FinOn
import PySem.Challenge.RW_nn0237_01
set_option Elab.async false
set_option maxRecDepth 100000
set_option linter.unusedVariables false
set_option autoImplicit false
namespace Mine
section Head
open PySem PySem.W PyProof.Rows
set_option maxHeartbeats 8000000 in
open_top hd for PySem.Challenge.rw_nn0237_01
end Head
section TextL1
open PySem PySem.W PyProof.Rows PySem.Calls
abbrev GM := Addr → Option Obj

inductive V where
  | none
  | bool (b : Bool)
  | int (i : Int)
  | str (s : Str)
  | bytes (b : List UInt8)
  | con (v : Value)
  | tup (vs : List V)
  | ref (a : Addr)
  | ob (C a d : Addr)
  | obj (C : Addr) (ns : List Str) (vs : List V)
  | slc (l u : V)
  | rng (a b c : Int)

inductive AObj where
  | list (vs : List V)
  | dint (es : List (Int × V))
  | dstr (es : List (Str × V))
  | flds (fs : List (Str × V))
  | cell (v : Option V)
  | flist (vs : List V)
  | fdint (es : List (Int × V))
  | fdstr (es : List (Str × V))
  | exc (C : Addr) (d : Option Addr)

def AObj.mut : AObj → Bool
  | .flist _ | .fdint _ | .fdstr _ => false
  | _ => true

abbrev HM := Addr → Option AObj
abbrev LM := List (Str × V)
abbrev FM := Addr → Option LM

def upd {α : Type} (f : Addr → Option α) (a : Addr) (x : α) : Addr → Option α := fun b => if b = a then some x else f b
theorem upd_same {α : Type} (f : Addr → Option α) (a : Addr) (x : α) : upd f a x a = some x := by simp [upd]
theorem upd_ne {α : Type} {f : Addr → Option α} {a b : Addr} {x : α} (h : b ≠ a) : upd f a x b = f b := by simp [upd, h]

def Le {α : Type} (f g : Addr → Option α) : Prop := ∀ a x, f a = some x → g a = some x
theorem Le.refl {α : Type} (f : Addr → Option α) : Le f f := fun _ _ h => h
theorem Le.trans {α : Type} {f g k : Addr → Option α} (x : Le f g) (y : Le g k) : Le f k := fun a o h => y a o (x a o h)
theorem Le.upd {α : Type} {f : Addr → Option α} {a : Addr} (x : α) (h : f a = none) : Le f (upd f a x) := fun b o e => by
  by_cases hb : b = a
  · subst hb; rw [h] at e; cases e
  · rw [upd_ne hb]; exact e

inductive RepV (Z : GM) : V → Value → Prop
  | none : RepV Z .none .none
  | bool (b : Bool) : RepV Z (.bool b) (.bool b)
  | int (i : Int) (t : Tok) : RepV Z (.int i) (.int i t)
  | str (s : Str) (t : Tok) : RepV Z (.str s) (.str s t)
  | bytes (b : List UInt8) (t : Tok) : RepV Z (.bytes b) (.bytes b.toArray t)
  | con (v : Value) : RepV Z (.con v) v
  | tup {a : Addr} {vs : List V} {us : List Value} {o : Obj} {n : Nat} : Z a = some o → o.cls = .type "tuple" → o.data = .seq us.toArray n → vs.length = us.length →
      (∀ (i : Nat) v u, vs[i]? = some v → us[i]? = some u → RepV Z v u) → RepV Z (.tup vs) (.ref a)
  | ref (a : Addr) : RepV Z (.ref a) (.ref a)
  | ob {C a d : Addr} : Z a = some (instObj C d) → RepV Z (.ob C a d) (.ref a)
  | obj {C a d : Addr} {ns : List Str} {vs : List V} {es : List DictEntry} {n : Nat} {o : Obj} : Z a = some o → o.cls = .ref C → notCls o = true → o.dict = some d → Z d = some (dictOf es n) → ns.length = es.length → vs.length = es.length →
      (∀ (i : Nat) x e, ns[i]? = some x → es[i]? = some e → ∃ t, e.key = .str x t) → (∀ (i : Nat) v e, vs[i]? = some v → es[i]? = some e → RepV Z v e.val) → RepV Z (.obj C ns vs) (.ref a)
  | slc {a : Addr} {l u : V} {lv uv : Value} : Z a = some { cls := .type "slice", data := .fields #[lv, uv, .none] } → RepV Z l lv → RepV Z u uv → RepV Z (.slc l u) (.ref a)
  | rng {r : Addr} {a b c : Int} {t u v : Tok} : Z r = some { cls := .type "range", dict := none, data := .fields #[.int a t, .int b u, .int c v], slots := #[] } → RepV Z (.rng a b c) (.ref r)

theorem RepV.mono {Z Z' : GM} (h : Le Z Z') {v : V} {u : Value} (r : RepV Z v u) : RepV Z' v u := by
  induction r with
  | none => exact .none
  | bool b => exact .bool b
  | int i t => exact .int i t
  | str s t => exact .str s t
  | bytes b t => exact .bytes b t
  | con v => exact .con v
  | tup h1 h2 h3 h4 _ ih => exact .tup (h _ _ h1) h2 h3 h4 ih
  | ref a => exact .ref a
  | ob h1 => exact .ob (h _ _ h1)
  | obj h1 h1a h1b h1c h2 h3 h4 h5 _ ih => exact .obj (h _ _ h1) h1a h1b h1c (h _ _ h2) h3 h4 h5 ih
  | slc h1 _ _ i1 i2 => exact .slc (h _ _ h1) i1 i2
  | rng h1 => exact .rng (h _ _ h1)

def RepVs (Z : GM) (vs : List V) (us : List Value) : Prop := vs.length = us.length ∧ ∀ (i : Nat) v u, vs[i]? = some v → us[i]? = some u → RepV Z v u
theorem RepVs.mono {Z Z' : GM} (h : Le Z Z') {v : List V} {u : List Value} (r : RepVs Z v u) : RepVs Z' v u := ⟨r.1, fun i a b x y => (r.2 i a b x y).mono h⟩
theorem RepVs.nil {Z : GM} : RepVs Z [] [] := ⟨rfl, fun i v u h => by simp at h⟩
theorem RepVs.cons {Z : GM} {v : V} {u : Value} {vs : List V} {us : List Value} (h : RepV Z v u) (r : RepVs Z vs us) : RepVs Z (v :: vs) (u :: us) := by
  refine ⟨by simp [r.1], fun i a b x y => ?_⟩
  cases i with
  | zero => simp at x y; subst x y; exact h
  | succ i => simp at x y; exact r.2 i a b x y
theorem RepVs.inv {Z : GM} {v : V} {vs : List V} {us : List Value} (r : RepVs Z (v :: vs) us) : ∃ u us', us = u :: us' ∧ RepV Z v u ∧ RepVs Z vs us' := by
  cases us with
  | nil => have := r.1; simp at this
  | cons u us => exact ⟨u, us, rfl, r.2 0 v u rfl rfl, by have := r.1; simpa using this, fun i a b x y => r.2 (i + 1) a b (by simpa using x) (by simpa using y)⟩
theorem RepVs.inv_nil {Z : GM} {us : List Value} (r : RepVs Z [] us) : us = [] := by cases us with | nil => rfl | cons u us => have := r.1; simp at this
theorem RepVs.get {Z : GM} {vs : List V} {us : List Value} (r : RepVs Z vs us) {i : Nat} {v : V} (h : vs[i]? = some v) : ∃ u, us[i]? = some u ∧ RepV Z v u := by
  have hi : i < us.length := by have := (List.getElem?_eq_some_iff.mp h).1; rw [r.1] at this; exact this
  exact ⟨us[i], List.getElem?_eq_getElem hi, r.2 i v _ h (List.getElem?_eq_getElem hi)⟩
theorem RepVs.append {Z : GM} {vs vs' : List V} {us us' : List Value} (r : RepVs Z vs us) (r' : RepVs Z vs' us') : RepVs Z (vs ++ vs') (us ++ us') := by
  refine ⟨by simp [r.1, r'.1], fun i v u x y => ?_⟩
  by_cases hi : i < vs.length
  · rw [List.getElem?_append_left hi] at x
    rw [List.getElem?_append_left (r.1 ▸ hi)] at y
    exact r.2 i v u x y
  · rw [List.getElem?_append_right (Nat.le_of_not_lt hi)] at x
    rw [List.getElem?_append_right (by rw [← r.1]; exact Nat.le_of_not_lt hi)] at y
    rw [← r.1] at y
    exact r'.2 _ v u x y
theorem RepVs.set {Z : GM} {vs : List V} {us : List Value} (r : RepVs Z vs us) {v : V} {u : Value} (h : RepV Z v u) (k : Nat) : RepVs Z (vs.set k v) (us.set k u) := by
  refine ⟨by simp [r.1], fun i a b x y => ?_⟩
  rw [List.getElem?_set] at x y
  by_cases hk : k = i
  · rw [if_pos hk] at x y
    split at x
    · split at y
      · cases x; cases y; exact h
      · cases y
    · cases x
  · rw [if_neg hk] at x y
    exact r.2 i a b x y

def RepKV {κ : Type} (Z : GM) (es : List (κ × V)) (kvs : List (κ × Value)) : Prop := es.map (·.1) = kvs.map (·.1) ∧ RepVs Z (es.map (·.2)) (kvs.map (·.2))
theorem RepKV.mono {κ : Type} {Z Z' : GM} (h : Le Z Z') {es : List (κ × V)} {kvs : List (κ × Value)} (r : RepKV Z es kvs) : RepKV Z' es kvs := ⟨r.1, r.2.mono h⟩

def RepF (Z : GM) (fs : List (Str × V)) (es : List DictEntry) : Prop :=
  fs.length = es.length ∧ ∀ (i : Nat) f e, fs[i]? = some f → es[i]? = some e → (∃ t, e.key = .str f.1 t) ∧ RepV Z f.2 e.val
theorem RepF.mono {Z Z' : GM} (h : Le Z Z') {fs : List (Str × V)} {es : List DictEntry} (r : RepF Z fs es) : RepF Z' fs es := ⟨r.1, fun i f e x y => ⟨(r.2 i f e x y).1, (r.2 i f e x y).2.mono h⟩⟩

def RepM (Z : GM) (ρ : LM) (m : Str → Option Value) : Prop := ∀ x v, ρ.lookup x = some v → ∃ u, m x = some u ∧ RepV Z v u
theorem RepM.mono {Z Z' : GM} (h : Le Z Z') {ρ : LM} {m : Str → Option Value} (r : RepM Z ρ m) : RepM Z' ρ m := fun x v e => let ⟨u, a, b⟩ := r x v e; ⟨u, a, b.mono h⟩

section
variable (prog : Program) (w : World) (g₀ : Heap) (os₀ : OsState)

def At (Z : GM) (h : Heap) (a : Addr) : AObj → Prop
  | .list vs => ∃ us n, h.get? a = some (listOf us.toArray n) ∧ RepVs Z vs us
  | .dint es => ∃ kvs, h.DictOf (intKind prog w) a kvs ∧ RepKV Z es kvs
  | .dstr es => ∃ kvs, h.DictOf (strKind prog w) a kvs ∧ RepKV Z es kvs
  | .flds fs => ∃ es n, h.get? a = some (dictOf es n) ∧ RepF Z fs es
  | .cell v => ∃ u, h.IsCell a u ∧ match v with | none => True | some v => ∃ u', u = some u' ∧ RepV Z v u'
  | .flist vs => ∃ us n, h.get? a = some (listOf us.toArray n) ∧ Z a = some (listOf us.toArray n) ∧ RepVs Z vs us
  | .fdint es => ∃ kvs, (∃ o, Z a = some o ∧ o.cls = .type "dict") ∧ h.DictOf (intKind prog w) a kvs ∧ RepKV Z es kvs
  | .fdstr es => ∃ kvs, (∃ o, Z a = some o ∧ o.cls = .type "dict") ∧ h.DictOf (strKind prog w) a kvs ∧ RepKV Z es kvs
  | .exc C d => ∃ t, h.get? a = some { cls := .ref C, dict := d, data := .fields #[.ref t, .none, .none, .none, .bool false, .none] }

theorem At.keep {Z Z' : GM} {h h' : Heap} {a : Addr} {o : AObj} (hz : Le Z Z') (k : ∀ o, h.get? a = some o → h'.get? a = some o) (x : At prog w Z h a o) : At prog w Z' h' a o := by
  cases o with
  | list vs => obtain ⟨us, n, h1, h2⟩ := x; exact ⟨us, n, k _ h1, h2.mono hz⟩
  | dint es => obtain ⟨kvs, ⟨o, e1, e2, h1, h3⟩, h2⟩ := x; exact ⟨kvs, ⟨o, e1, e2, k _ h1, h3⟩, h2.mono hz⟩
  | dstr es => obtain ⟨kvs, ⟨o, e1, e2, h1, h3⟩, h2⟩ := x; exact ⟨kvs, ⟨o, e1, e2, k _ h1, h3⟩, h2.mono hz⟩
  | flds fs => obtain ⟨es, n, h1, h2⟩ := x; exact ⟨es, n, k _ h1, h2.mono hz⟩
  | cell v =>
    obtain ⟨u, ⟨o, h1, h2⟩, h3⟩ := x
    refine ⟨u, ⟨o, k _ h1, h2⟩, ?_⟩
    cases v with
    | none => trivial
    | some v => obtain ⟨u', e, r⟩ := h3; exact ⟨u', e, r.mono hz⟩
  | flist vs => obtain ⟨us, n, h1, h0, h2⟩ := x; exact ⟨us, n, k _ h1, hz _ _ h0, h2.mono hz⟩
  | fdint es => obtain ⟨kvs, ⟨oz, hz1, hz2⟩, ⟨o, e1, e2, h1, h3⟩, h2⟩ := x; exact ⟨kvs, ⟨oz, hz _ _ hz1, hz2⟩, ⟨o, e1, e2, k _ h1, h3⟩, h2.mono hz⟩
  | fdstr es => obtain ⟨kvs, ⟨oz, hz1, hz2⟩, ⟨o, e1, e2, h1, h3⟩, h2⟩ := x; exact ⟨kvs, ⟨oz, hz _ _ hz1, hz2⟩, ⟨o, e1, e2, k _ h1, h3⟩, h2.mono hz⟩
  | exc C d => obtain ⟨t, h1⟩ := x; exact ⟨t, k _ h1⟩
theorem At.some_ {Z : GM} {h : Heap} {a : Addr} {o : AObj} (x : At prog w Z h a o) : ∃ c, h.get? a = some c := by
  cases o with
  | list vs => obtain ⟨us, n, h1, h2⟩ := x; exact ⟨_, h1⟩
  | dint es => obtain ⟨kvs, ⟨o, e1, e2, h1, h3⟩, h2⟩ := x; exact ⟨_, h1⟩
  | dstr es => obtain ⟨kvs, ⟨o, e1, e2, h1, h3⟩, h2⟩ := x; exact ⟨_, h1⟩
  | flds fs => obtain ⟨es, n, h1, h2⟩ := x; exact ⟨_, h1⟩
  | cell v => obtain ⟨u, ⟨o, h1, h2⟩, h3⟩ := x; exact ⟨_, h1⟩
  | flist vs => obtain ⟨us, n, h1, h2⟩ := x; exact ⟨_, h1⟩
  | fdint es => obtain ⟨kvs, hz, ⟨o, e1, e2, h1, h3⟩, h2⟩ := x; exact ⟨_, h1⟩
  | fdstr es => obtain ⟨kvs, hz, ⟨o, e1, e2, h1, h3⟩, h2⟩ := x; exact ⟨_, h1⟩
  | exc C d => obtain ⟨t, h1⟩ := x; exact ⟨_, h1⟩

structure StX (Z : GM) (Fo : FM) (H : HM) (B : Heap) (s : Shared) : Prop where
  base : ∀ b o, g₀.get? b = some o → B.get? b = some o
  z : ∀ b o, Z b = some o → B.get? b = some o
  zb : ∀ b o, Z b = some o → g₀.get? b = none
  own : ∀ b o, H b = some o → At prog w Z B b o
  hb : ∀ b o, H b = some o → g₀.get? b = none ∧ (o.mut = true → Z b = none)
  fr : ∀ b ρ, Fo b = some ρ → ∃ m, s.heap.Ns b m ∧ RepM Z ρ m
  fb : ∀ b ρ, Fo b = some ρ → g₀.get? b = none ∧ Z b = none ∧ H b = none
  stay : ∀ b o, B.get? b = some o → s.heap.get? b = some o
  gens : s.gens = #[]
  os : s.os = os₀
def St (Z : GM) (Fo : FM) (H : HM) (s : Shared) : Prop := StX prog w g₀ os₀ Z Fo H s.heap s
end

section
variable {prog : Program} {w : World} {g₀ : Heap} {os₀ : OsState} {Z Z' : GM} {Fo Fo' : FM} {H H' : HM} {s s' : Shared} {B : Heap}

theorem StX.st (x : StX prog w g₀ os₀ Z Fo H B s) : St prog w g₀ os₀ Z Fo H s where
  base := fun b o e => x.stay b o (x.base b o e)
  z := fun b o e => x.stay b o (x.z b o e)
  zb := x.zb
  own := fun b o e => (x.own b o e).keep prog w (Le.refl _) (fun o e => x.stay b o e)
  hb := x.hb
  fr := x.fr
  fb := x.fb
  stay := fun _ _ e => e
  gens := x.gens
  os := x.os

theorem St.grow (x : St prog w g₀ os₀ Z Fo H s) {h' : Heap} {tk : Tok} (k : ∀ b o, s.heap.get? b = some o → h'.get? b = some o) : St prog w g₀ os₀ Z Fo H { s with heap := h', toks := tk } where
  base := fun b o e => k _ _ (x.base b o e)
  z := fun b o e => k _ _ (x.z b o e)
  zb := x.zb
  own := fun b o e => (x.own b o e).keep prog w (Le.refl _) (fun o e => k b o e)
  hb := x.hb
  fr := fun b ρ e => let ⟨m, a, r⟩ := x.fr b ρ e; ⟨m, a.keeps k, r⟩
  fb := x.fb
  stay := fun _ _ e => e
  gens := x.gens
  os := x.os
theorem St.toks (x : St prog w g₀ os₀ Z Fo H s) {tk : Tok} : St prog w g₀ os₀ Z Fo H { s with toks := tk } := x.grow fun _ _ e => e

theorem St.put (x : St prog w g₀ os₀ Z Fo H s) {h' : Heap} {tk : Tok} {a : Addr} {o₀ o' : AObj} (ha : H a = some o₀) (k : Heap.ExtBut a s.heap h') (hat : At prog w Z h' a o') (hm : o₀.mut = true := by rfl) :
    St prog w g₀ os₀ Z Fo (upd H a o') { s with heap := h', toks := tk } := by
  have hn : g₀.get? a = none ∧ Z a = none := ⟨(x.hb a o₀ ha).1, (x.hb a o₀ ha).2 hm⟩
  have hf : ∀ b ρ, Fo b = some ρ → b ≠ a := fun b ρ e q => by have := (x.fb b ρ e).2.2; rw [q, ha] at this; cases this
  refine ⟨fun b o e => ?_, fun b o e => ?_, x.zb, fun b o e => ?_, fun b o e => ?_, fun b ρ e => ?_, fun b ρ e => ?_, fun _ _ e => e, x.gens, x.os⟩
  · exact k b o (fun q => by rw [q, hn.1] at e; cases e) (x.base b o e)
  · exact k b o (fun q => by rw [q, hn.2] at e; cases e) (x.z b o e)
  · by_cases hb : b = a
    · subst hb; rw [upd_same] at e; cases e; exact hat
    · rw [upd_ne hb] at e
      exact (x.own b o e).keep prog w (Le.refl _) (fun o e => k b o hb e)
  · by_cases hb : b = a
    · subst hb; exact ⟨hn.1, fun _ => hn.2⟩
    · rw [upd_ne hb] at e; exact x.hb b o e
  · obtain ⟨m, h1, h2⟩ := x.fr b ρ e
    exact ⟨m, h1.extBut k (hf b ρ e), h2⟩
  · have := x.fb b ρ e
    exact ⟨this.1, this.2.1, by rw [upd_ne (hf b ρ e)]; exact this.2.2⟩

theorem St.new (x : St prog w g₀ os₀ Z Fo H s) {h' : Heap} {tk : Tok} {a : Addr} {o' : AObj} (ha : s.heap.get? a = none) (k : ∀ b o, s.heap.get? b = some o → h'.get? b = some o) (hat : At prog w Z h' a o') :
    H a = none ∧ Z a = none ∧ Fo a = none ∧ St prog w g₀ os₀ Z Fo (upd H a o') { s with heap := h', toks := tk } := by
  have hz : Z a = none := by
    cases q : Z a with
    | none => rfl
    | some o => have := x.z a o q; rw [ha] at this; cases this
  have hg : g₀.get? a = none := by
    cases q : g₀.get? a with
    | none => rfl
    | some o => have := x.base a o q; rw [ha] at this; cases this
  have hH : H a = none := by
    cases q : H a with
    | none => rfl
    | some o => obtain ⟨c, hc⟩ := (x.own a o q).some_; rw [ha] at hc; cases hc
  have hF : Fo a = none := by
    cases q : Fo a with
    | none => rfl
    | some o => obtain ⟨m, ⟨oo, es, ep, h1, _⟩, _⟩ := x.fr a o q; rw [ha] at h1; cases h1
  refine ⟨hH, hz, hF, fun b o e => k _ _ (x.base b o e), fun b o e => k _ _ (x.z b o e), x.zb, fun b o e => ?_, fun b o e => ?_, fun b ρ e => ?_, fun b ρ e => ?_, fun _ _ e => e, x.gens, x.os⟩
  · by_cases hb : b = a
    · subst hb; rw [upd_same] at e; cases e; exact hat
    · rw [upd_ne hb] at e
      exact (x.own b o e).keep prog w (Le.refl _) (fun o e => k b o e)
  · by_cases hb : b = a
    · subst hb; exact ⟨hg, fun _ => hz⟩
    · rw [upd_ne hb] at e; exact x.hb b o e
  · obtain ⟨m, h1, h2⟩ := x.fr b ρ e
    exact ⟨m, h1.keeps k, h2⟩
  · have := x.fb b ρ e
    refine ⟨this.1, this.2.1, ?_⟩
    rw [upd_ne (fun q => by rw [q, hF] at e; cases e)]; exact this.2.2

theorem St.drop (x : St prog w g₀ os₀ Z Fo H s) (k : Le H' H) : St prog w g₀ os₀ Z Fo H' s where
  base := x.base
  z := x.z
  zb := x.zb
  own := fun b o e => x.own b o (k _ _ e)
  hb := fun b o e => x.hb b o (k _ _ e)
  fr := x.fr
  fb := fun b ρ e => ⟨(x.fb b ρ e).1, (x.fb b ρ e).2.1, by
    cases q : H' b with
    | none => rfl
    | some o => have := (x.fb b ρ e).2.2; rw [k _ _ q] at this; cases this⟩
  stay := x.stay
  gens := x.gens
  os := x.os

theorem St.frz (x : St prog w g₀ os₀ Z Fo H s) {h' : Heap} {tk : Tok} {a : Addr} {o : Obj} (ha : s.heap.get? a = none) (k : ∀ b o, s.heap.get? b = some o → h'.get? b = some o) (hat : h'.get? a = some o) :
    Le Z (upd Z a o) ∧ St prog w g₀ os₀ (upd Z a o) Fo H { s with heap := h', toks := tk } := by
  have hz : Z a = none := by
    cases q : Z a with
    | none => rfl
    | some o => have := x.z a o q; rw [ha] at this; cases this
  have hg : g₀.get? a = none := by
    cases q : g₀.get? a with
    | none => rfl
    | some o => have := x.base a o q; rw [ha] at this; cases this
  have hH : H a = none := by
    cases q : H a with
    | none => rfl
    | some o => obtain ⟨c, hc⟩ := (x.own a o q).some_; rw [ha] at hc; cases hc
  have hF : Fo a = none := by
    cases q : Fo a with
    | none => rfl
    | some o => obtain ⟨m, ⟨oo, es, ep, h1, _⟩, _⟩ := x.fr a o q; rw [ha] at h1; cases h1
  have hle : Le Z (upd Z a o) := Le.upd o hz
  refine ⟨hle, fun b o e => k _ _ (x.base b o e), fun b o' e => ?_, fun b o' e => ?_, fun b o e => (x.own b o e).keep prog w hle (fun o e => k b o e), fun b o' e => ?_, fun b ρ e => ?_, fun b ρ e => ?_, fun _ _ e => e, x.gens, x.os⟩
  · by_cases hb : b = a
    · subst hb; rw [upd_same] at e; cases e; exact hat
    · rw [upd_ne hb] at e; exact k _ _ (x.z b o' e)
  · by_cases hb : b = a
    · subst hb; exact hg
    · rw [upd_ne hb] at e; exact x.zb b o' e
  · have := x.hb b o' e
    refine ⟨this.1, ?_⟩
    rw [upd_ne (fun q => by rw [q, hH] at e; cases e)]; exact this.2
  · obtain ⟨m, h1, h2⟩ := x.fr b ρ e
    exact ⟨m, h1.keeps k, h2.mono hle⟩
  · have := x.fb b ρ e
    refine ⟨this.1, ?_, this.2.2⟩
    rw [upd_ne (fun q => by rw [q, hF] at e; cases e)]; exact this.2.1

theorem St.freeze (x : St prog w g₀ os₀ Z Fo H s) {a : Addr} {o₀ o' : AObj} {o : Obj} (ha : H a = some o₀) (hm : o₀.mut = true) (ho : s.heap.get? a = some o) (hat : ∀ Z', Le Z Z' → Z' a = some o → At prog w Z' s.heap a o') (hm' : o'.mut = false) :
    Le Z (upd Z a o) ∧ St prog w g₀ os₀ (upd Z a o) Fo (upd H a o') s := by
  have hn : g₀.get? a = none ∧ Z a = none := ⟨(x.hb a o₀ ha).1, (x.hb a o₀ ha).2 hm⟩
  have hF : ∀ b ρ, Fo b = some ρ → b ≠ a := fun b ρ e q => by have := (x.fb b ρ e).2.2; rw [q, ha] at this; cases this
  have hle : Le Z (upd Z a o) := Le.upd o hn.2
  refine ⟨hle, x.base, fun b o' e => ?_, fun b o' e => ?_, fun b o₁ e => ?_, fun b o₁ e => ?_, fun b ρ e => ?_, fun b ρ e => ?_, fun _ _ e => e, x.gens, x.os⟩
  · by_cases hb : b = a
    · subst hb; rw [upd_same] at e; cases e; exact ho
    · rw [upd_ne hb] at e; exact x.z b o' e
  · by_cases hb : b = a
    · subst hb; exact hn.1
    · rw [upd_ne hb] at e; exact x.zb b o' e
  · by_cases hb : b = a
    · subst hb; rw [upd_same] at e; cases e; exact hat _ hle (upd_same ..)
    · rw [upd_ne hb] at e; exact (x.own b o₁ e).keep prog w hle (fun o e => e)
  · by_cases hb : b = a
    · subst hb; rw [upd_same] at e; cases e; exact ⟨hn.1, fun q => by rw [hm'] at q; cases q⟩
    · rw [upd_ne hb] at e; rw [upd_ne hb]; exact x.hb b o₁ e
  · obtain ⟨m, h1, h2⟩ := x.fr b ρ e
    exact ⟨m, h1, h2.mono hle⟩
  · have := x.fb b ρ e
    refine ⟨this.1, ?_, ?_⟩
    · rw [upd_ne (hF b ρ e)]; exact this.2.1
    · rw [upd_ne (hF b ρ e)]; exact this.2.2

theorem St.loc (x : St prog w g₀ os₀ Z Fo H s) {h' : Heap} {tk : Tok} {L : Addr} {ρ ρ' : LM} {m' : Str → Option Value} (hL : Fo L = some ρ) (k : Heap.ExtBut L s.heap h') (hn : h'.Ns L m') (hr : RepM Z ρ' m') :
    St prog w g₀ os₀ Z (upd Fo L ρ') H { s with heap := h', toks := tk } := by
  have hn' := x.fb L ρ hL
  refine ⟨fun b o e => ?_, fun b o e => ?_, x.zb, fun b o e => ?_, x.hb, fun b ρ₁ e => ?_, fun b ρ₁ e => ?_, fun _ _ e => e, x.gens, x.os⟩
  · exact k b o (fun q => by rw [q, hn'.1] at e; cases e) (x.base b o e)
  · exact k b o (fun q => by rw [q, hn'.2.1] at e; cases e) (x.z b o e)
  · exact (x.own b o e).keep prog w (Le.refl _) (fun o' e' => k b o' (fun q => by rw [q, hn'.2.2] at e; cases e) e')
  · by_cases hb : b = L
    · subst hb; rw [upd_same] at e; cases e; exact ⟨m', hn, hr⟩
    · rw [upd_ne hb] at e
      obtain ⟨m, h1, h2⟩ := x.fr b ρ₁ e
      exact ⟨m, h1.extBut k hb, h2⟩
  · by_cases hb : b = L
    · subst hb; exact hn'
    · rw [upd_ne hb] at e; exact x.fb b ρ₁ e

theorem St.push (x : St prog w g₀ os₀ Z Fo H s) {h' : Heap} {tk : Tok} {L : Addr} {ρ : LM} {m : Str → Option Value} (hL : s.heap.get? L = none) (k : ∀ b o, s.heap.get? b = some o → h'.get? b = some o) (hn : h'.Ns L m) (hr : RepM Z ρ m) :
    Fo L = none ∧ St prog w g₀ os₀ Z (upd Fo L ρ) H { s with heap := h', toks := tk } := by
  have hz : Z L = none := by
    cases q : Z L with
    | none => rfl
    | some o => have := x.z L o q; rw [hL] at this; cases this
  have hg : g₀.get? L = none := by
    cases q : g₀.get? L with
    | none => rfl
    | some o => have := x.base L o q; rw [hL] at this; cases this
  have hH : H L = none := by
    cases q : H L with
    | none => rfl
    | some o => obtain ⟨c, hc⟩ := (x.own L o q).some_; rw [hL] at hc; cases hc
  have hF : Fo L = none := by
    cases q : Fo L with
    | none => rfl
    | some o => obtain ⟨m, ⟨oo, es, ep, h1, _⟩, _⟩ := x.fr L o q; rw [hL] at h1; cases h1
  refine ⟨hF, fun b o e => k _ _ (x.base b o e), fun b o e => k _ _ (x.z b o e), x.zb, fun b o e => (x.own b o e).keep prog w (Le.refl _) (fun o e => k b o e), x.hb, fun b ρ₁ e => ?_, fun b ρ₁ e => ?_, fun _ _ e => e, x.gens, x.os⟩
  · by_cases hb : b = L
    · subst hb; rw [upd_same] at e; cases e; exact ⟨m, hn, hr⟩
    · rw [upd_ne hb] at e
      obtain ⟨m, h1, h2⟩ := x.fr b ρ₁ e
      exact ⟨m, h1.keeps k, h2⟩
  · by_cases hb : b = L
    · subst hb; exact ⟨hg, hz, hH⟩
    · rw [upd_ne hb] at e; exact x.fb b ρ₁ e

theorem StX.less (x : StX prog w g₀ os₀ Z Fo H B s) (k : ∀ b ρ, Fo' b = some ρ → ∃ ρ₀, Fo b = some ρ₀ ∧ ∀ y v, ρ.lookup y = some v → ρ₀.lookup y = some v) : StX prog w g₀ os₀ Z Fo' H B s where
  base := x.base
  z := x.z
  zb := x.zb
  own := x.own
  hb := x.hb
  fr := fun b ρ e => let ⟨ρ₀, e₀, i⟩ := k b ρ e; let ⟨m, a, r⟩ := x.fr b ρ₀ e₀; ⟨m, a, fun y v h => r y v (i y v h)⟩
  fb := fun b ρ e => let ⟨ρ₀, e₀, _⟩ := k b ρ e; x.fb b ρ₀ e₀
  stay := x.stay
  gens := x.gens
  os := x.os
end
end TextL1
section TextL2
open PySem PySem.W PyProof.Rows PySem.Calls
structure Pm where
  prog : Program
  w : World
  g : Heap
  os : OsState
  q : Program
  loose : List Str
  mg : Str → Option Value
  mb : Str → Option Value
  X : (Mine.hd.heap_39 w.params).In g
  T : TopRead q loose mg mb g
  sysM : g.get? sysModules ≠ none
  seer : g.NoSeer
  tree : prog.given.tree = none

structure Cx where
  env : Env
  fr : List Env
  n : Nat

def AR (n : Nat) (l : List Env) : Around := { handled := none, depth := 998 - n, frames := some l, guards := none, units := 9000 - 10 * n }
def Cx.A (c : Cx) : Around := AR c.n c.fr
abbrev Cx.L (c : Cx) : Addr := c.env.locals

def FrOK (Fo : FM) (l : List Env) : Prop := ∀ env ∈ l, env.scope.kind ≠ .module ∧ ∃ L, env.frame = some L ∧ ∃ ρ, Fo L = some ρ

section
variable (p : Pm)
abbrev StP (Z : GM) (Fo : FM) (H : HM) (s : Shared) : Prop := St p.prog p.w p.g p.os Z Fo H s
abbrev StXP (Z : GM) (Fo : FM) (H : HM) (B : Heap) (s : Shared) : Prop := StX p.prog p.w p.g p.os Z Fo H B s
abbrev M : Model := model p.prog p.w

structure Now (c : Cx) (Z : GM) (Fo : FM) (ρ : LM) (H : HM) (s : Shared) : Prop where
  st : StP p Z Fo H s
  lo : Fo c.L = some ρ
  fr : FrOK Fo c.fr
  n : c.n < 600

def ExcAt (B h : Heap) (e C d : Addr) (md : Option Value) : Prop :=
  ∃ vs sl, h.get? e = some ⟨.ref C, some d, .fields vs, sl⟩ ∧ B.get? e = none ∧ match md with
    | none => vs[1]? = some .none
    | some fl => ∃ T oT ts, vs[1]? = some (.ref T) ∧ B.get? T = none ∧ T ≠ e ∧ h.get? T = some oT ∧ oT.data = .fields ts ∧ ts[3]? = some fl

def Hid (B : Heap) (l : List Env) : Prop := ∀ env ∈ l, ∀ L, env.frame = some L → B.get? L = none

structure Fly (l : List Env) (Z : GM) (Fo : FM) (H : HM) (B : Heap) (s : Shared) (e C d : Addr) (md : Option Value) (fs : List (Str × V)) : Prop where
  st : StXP p Z Fo H B s
  ex : ExcAt B s.heap e C d md
  hid : Hid B l
  at_ : At p.prog p.w Z B d (.flds fs)
  new : H d = none ∧ Z d = none ∧ p.g.get? d = none ∧ Fo d = none
  new' : H e = none ∧ Z e = none ∧ p.g.get? e = none ∧ Fo e = none

abbrev XQ := Addr → LM → LM → HM → Prop
def NX : XQ := fun _ _ _ _ => False

def XPost (c : Cx) (Z : GM) (Fo : FM) (X : XQ) (u : Value) (s' : Shared) : Prop :=
  ∃ Z' ρ' H' B e C d md fs, u = .ref e ∧ Le Z Z' ∧ Fly p c.fr Z' (upd Fo c.L ρ') H' B s' e C d md fs ∧
    (md = none ∨ md = some .none ∨ ∃ L, c.env.frame = some L ∧ md = some (rawInt L)) ∧ X C fs ρ' H'

def EPost (Z : GM) (Fo : FM) (Q : V → HM → Prop) (u : Value) (s' : Shared) : Prop :=
  ∃ Z' H' v, Le Z Z' ∧ StP p Z' Fo H' s' ∧ RepV Z' v u ∧ Q v H'
def EPosts (Z : GM) (Fo : FM) (Q : List V → HM → Prop) (us : List Value) (s' : Shared) : Prop :=
  ∃ Z' H' vs, Le Z Z' ∧ StP p Z' Fo H' s' ∧ RepVs Z' vs us ∧ Q vs H'
def BPost (Z : GM) (Fo : FM) (Q : Bool → HM → Prop) (b : Bool) (s' : Shared) : Prop :=
  ∃ Z' H', Le Z Z' ∧ StP p Z' Fo H' s' ∧ Q b H'

inductive AF where
  | next | brk | cont | ret (v : V)
inductive RepFl (Z : GM) : AF → Flow → Prop
  | next : RepFl Z .next .next
  | brk : RepFl Z .brk .brk
  | cont : RepFl Z .cont .cont
  | ret {v : V} {u : Value} : RepV Z v u → RepFl Z (.ret v) (.ret u)
def SPost (c : Cx) (Z : GM) (Fo : FM) (Q : AF → LM → HM → Prop) (f : Flow) (s' : Shared) : Prop :=
  ∃ Z' ρ' H' af, Le Z Z' ∧ StP p Z' (upd Fo c.L ρ') H' s' ∧ RepFl Z' af f ∧ Q af ρ' H'
def UPost (c : Cx) (Z : GM) (Fo : FM) (Q : LM → HM → Prop) (_ : Unit) (s' : Shared) : Prop :=
  ∃ Z' ρ' H', Le Z Z' ∧ StP p Z' (upd Fo c.L ρ') H' s' ∧ Q ρ' H'

def EW (c : Cx) (ρ : LM) (H : HM) (t : Sem Value) (Q : V → HM → Prop) (X : XQ) : Prop :=
  ∀ Z Fo s, Now p c Z Fo ρ H s → wpAny (M p) c.A t (EPost p Z Fo Q) (XPost p c Z Fo X) s
def EWs (c : Cx) (ρ : LM) (H : HM) (t : Sem (List Value)) (Q : List V → HM → Prop) (X : XQ) : Prop :=
  ∀ Z Fo s, Now p c Z Fo ρ H s → wpAny (M p) c.A t (EPosts p Z Fo Q) (XPost p c Z Fo X) s
def BW (c : Cx) (ρ : LM) (H : HM) (t : Sem Bool) (Q : Bool → HM → Prop) (X : XQ) : Prop :=
  ∀ Z Fo s, Now p c Z Fo ρ H s → wpAny (M p) c.A t (BPost p Z Fo Q) (XPost p c Z Fo X) s
def SW (c : Cx) (ρ : LM) (H : HM) (t : Sem Flow) (Q : AF → LM → HM → Prop) (X : XQ) : Prop :=
  ∀ Z Fo s, Now p c Z Fo ρ H s → wpAny (M p) c.A t (SPost p c Z Fo Q) (XPost p c Z Fo X) s
def O1 (c : Cx) (ρ : LM) (H : HM) (f : Value → Sem Value) (a : V) (Q : V → HM → Prop) (X : XQ) : Prop :=
  ∀ Z Fo s u, Now p c Z Fo ρ H s → RepV Z a u → wpAny (M p) c.A (f u) (EPost p Z Fo Q) (XPost p c Z Fo X) s
def O2 (c : Cx) (ρ : LM) (H : HM) (f : Value → Value → Sem Value) (a b : V) (Q : V → HM → Prop) (X : XQ) : Prop :=
  ∀ Z Fo s u v, Now p c Z Fo ρ H s → RepV Z a u → RepV Z b v → wpAny (M p) c.A (f u v) (EPost p Z Fo Q) (XPost p c Z Fo X) s
def B1 (c : Cx) (ρ : LM) (H : HM) (f : Value → Sem Bool) (a : V) (Q : Bool → HM → Prop) (X : XQ) : Prop :=
  ∀ Z Fo s u, Now p c Z Fo ρ H s → RepV Z a u → wpAny (M p) c.A (f u) (BPost p Z Fo Q) (XPost p c Z Fo X) s
def U1 (c : Cx) (ρ : LM) (H : HM) (f : Value → Sem Unit) (a : V) (Q : LM → HM → Prop) (X : XQ) : Prop :=
  ∀ Z Fo s u, Now p c Z Fo ρ H s → RepV Z a u → wpAny (M p) c.A (f u) (UPost p c Z Fo Q) (XPost p c Z Fo X) s
def U2 (c : Cx) (ρ : LM) (H : HM) (f : Value → Value → Sem Unit) (a b : V) (Q : LM → HM → Prop) (X : XQ) : Prop :=
  ∀ Z Fo s u v, Now p c Z Fo ρ H s → RepV Z a u → RepV Z b v → wpAny (M p) c.A (f u v) (UPost p c Z Fo Q) (XPost p c Z Fo X) s
def U3 (c : Cx) (ρ : LM) (H : HM) (f : Value → Value → Value → Sem Unit) (a b d : V) (Q : LM → HM → Prop) (X : XQ) : Prop :=
  ∀ Z Fo s u v x, Now p c Z Fo ρ H s → RepV Z a u → RepV Z b v → RepV Z d x → wpAny (M p) c.A (f u v x) (UPost p c Z Fo Q) (XPost p c Z Fo X) s
def Os (c : Cx) (ρ : LM) (H : HM) (f : List Value → Sem Value) (as : List V) (Q : V → HM → Prop) (X : XQ) : Prop :=
  ∀ Z Fo s us, Now p c Z Fo ρ H s → RepVs Z as us → wpAny (M p) c.A (f us) (EPost p Z Fo Q) (XPost p c Z Fo X) s
end

section
variable {p : Pm} {c : Cx} {ρ : LM} {H : HM} {Z Z₁ : GM} {Fo : FM} {s s' : Shared} {X : XQ}

theorem upd_self {α : Type} {f : Addr → Option α} {a : Addr} {x : α} (h : f a = some x) : upd f a x = f := by
  funext b
  by_cases hb : b = a
  · subst hb; rw [upd_same, h]
  · rw [upd_ne hb]
theorem upd_upd {α : Type} (f : Addr → Option α) (a : Addr) (x y : α) : upd (upd f a x) a y = upd f a y := by
  funext b
  by_cases hb : b = a
  · subst hb; rw [upd_same, upd_same]
  · rw [upd_ne hb, upd_ne hb, upd_ne hb]
theorem upd_comm {α : Type} (f : Addr → Option α) {a b : Addr} (x y : α) (h : a ≠ b) : upd (upd f a x) b y = upd (upd f b y) a x := by
  funext k
  by_cases hb : k = b
  · subst hb; rw [upd_same, upd_ne (Ne.symm h), upd_same]
  · rw [upd_ne hb]
    by_cases ha : k = a
    · subst ha; rw [upd_same, upd_same]
    · rw [upd_ne ha, upd_ne ha, upd_ne hb]

theorem XPost.mono {u : Value} (hz : Le Z Z₁) (x : XPost p c Z₁ Fo X u s) : XPost p c Z Fo X u s := by
  obtain ⟨Z', ρ', H', B, e, C, d, md, fs, h1, h2, r⟩ := x
  exact ⟨Z', ρ', H', B, e, C, d, md, fs, h1, hz.trans h2, r⟩
theorem XPost.weaken {X' : XQ} {u : Value} (h : ∀ C fs ρ H, X C fs ρ H → X' C fs ρ H) (x : XPost p c Z Fo X u s) : XPost p c Z Fo X' u s := by
  obtain ⟨Z', ρ', H', B, e, C, d, md, fs, h1, h2, h3, h4, h5⟩ := x
  exact ⟨Z', ρ', H', B, e, C, d, md, fs, h1, h2, h3, h4, h _ _ _ _ h5⟩
theorem XPost.upd {u : Value} {ρ₁ : LM} (x : XPost p c Z (upd Fo c.L ρ₁) X u s) : XPost p c Z Fo X u s := by
  obtain ⟨Z', ρ', H', B, e, C, d, md, fs, h1, h2, h3, h4, h5⟩ := x
  rw [upd_upd] at h3
  exact ⟨Z', ρ', H', B, e, C, d, md, fs, h1, h2, h3, h4, h5⟩

theorem FrOK.upd {l : List Env} {L : Addr} {ρ : LM} (h : FrOK Fo l) : FrOK (upd Fo L ρ) l := fun env he => by
  obtain ⟨h1, L', h2, ρ', h3⟩ := h env he
  refine ⟨h1, L', h2, ?_⟩
  by_cases hb : L' = L
  · subst hb; exact ⟨ρ, upd_same ..⟩
  · exact ⟨ρ', by rw [upd_ne hb]; exact h3⟩
theorem Now.step {H₁ : HM} (x : Now p c Z Fo ρ H s) (st : StP p Z₁ Fo H₁ s') : Now p c Z₁ Fo ρ H₁ s' := ⟨st, x.lo, x.fr, x.n⟩
theorem Now.stepL {ρ₁ : LM} {H₁ : HM} (x : Now p c Z Fo ρ H s) (st : StP p Z₁ (upd Fo c.L ρ₁) H₁ s') : Now p c Z₁ (upd Fo c.L ρ₁) ρ₁ H₁ s' := ⟨st, upd_same .., x.fr.upd, x.n⟩

theorem EPost.mk' {Q : V → HM → Prop} {v : V} {u : Value} {H' : HM} (st : StP p Z Fo H' s) (r : RepV Z v u) (q : Q v H') : EPost p Z Fo Q u s := ⟨Z, H', v, Le.refl _, st, r, q⟩
theorem EPost.mono {Q : V → HM → Prop} {u : Value} (hz : Le Z Z₁) (x : EPost p Z₁ Fo Q u s) : EPost p Z Fo Q u s := by
  obtain ⟨Z', H', v, h1, h2, h3, h4⟩ := x
  exact ⟨Z', H', v, hz.trans h1, h2, h3, h4⟩

theorem EW.mono {t : Sem Value} {Q Q' : V → HM → Prop} {X' : XQ} (h : EW p c ρ H t Q X) (hq : ∀ v H, Q v H → Q' v H) (hx : ∀ C fs ρ H, X C fs ρ H → X' C fs ρ H) : EW p c ρ H t Q' X' :=
  fun Z Fo s hn => wpAny_mono (h Z Fo s hn) (fun u s ⟨Z', H', v, h1, h2, h3, h4⟩ => ⟨Z', H', v, h1, h2, h3, hq _ _ h4⟩) fun _ _ e => e.weaken hx
theorem SW.mono {t : Sem Flow} {Q Q' : AF → LM → HM → Prop} {X' : XQ} (h : SW p c ρ H t Q X) (hq : ∀ f ρ H, Q f ρ H → Q' f ρ H) (hx : ∀ C fs ρ H, X C fs ρ H → X' C fs ρ H) : SW p c ρ H t Q' X' :=
  fun Z Fo s hn => wpAny_mono (h Z Fo s hn) (fun u s ⟨Z', ρ', H', v, h1, h2, h3, h4⟩ => ⟨Z', ρ', H', v, h1, h2, h3, hq _ _ _ h4⟩) fun _ _ e => e.weaken hx

theorem Now.Fr (x : Now p c Z Fo ρ H s) (hL : p.g.objs.size ≤ c.L) : ∃ m, PyProof.Rows.Fr p.g c.L s.heap m ∧ RepM Z ρ m := by
  obtain ⟨m, h1, h2⟩ := x.st.fr _ _ x.lo
  exact ⟨m, ⟨h1, x.st.base, hL⟩, h2⟩
end
end TextL2
section TextL3
open PySem PySem.W PyProof.Rows PySem.Calls
section
variable {p : Pm} {c : Cx} {ρ : LM} {H : HM} {Z Z₁ : GM} {Fo : FM} {s s' : Shared} {X : XQ} {Q : V → HM → Prop}

theorem EW.pure {v : V} {u : Value} (h : Q v H) (r : ∀ Z, RepV Z v u) : EW p c ρ H (pure u) Q X := fun Z Fo s hn => wpAny_pure (.mk' hn.st (r Z) h)

theorem O1.use {f : Value → Sem Value} {a : V} {u : Value} (h : O1 p c ρ H f a Q X) (hn : Now p c Z Fo ρ H s) (r : RepV Z a u) : wpAny (M p) c.A (f u) (EPost p Z Fo Q) (XPost p c Z Fo X) s := h Z Fo s u hn r

theorem toE {α : Type} {t : Sem α} {P P' : α → Shared → Prop} {Z Z₁ : GM} (hz : Le Z Z₁) (h : wpAny (M p) c.A t P (XPost p c Z₁ Fo X) s) (k : ∀ a s, P a s → P' a s) : wpAny (M p) c.A t P' (XPost p c Z Fo X) s :=
  wpAny_mono h k fun _ _ e => e.mono hz
theorem EPost.le {u : Value} (hz : Le Z Z₁) : EPost p Z₁ Fo Q u s → EPost p Z Fo Q u s := fun x => x.mono hz
theorem EPosts.le {Qs : List V → HM → Prop} {u : List Value} (hz : Le Z Z₁) (x : EPosts p Z₁ Fo Qs u s) : EPosts p Z Fo Qs u s := by
  obtain ⟨Z', H', v, h1, h2, h3, h4⟩ := x
  exact ⟨Z', H', v, hz.trans h1, h2, h3, h4⟩
theorem BPost.le {Qb : Bool → HM → Prop} {u : Bool} (hz : Le Z Z₁) (x : BPost p Z₁ Fo Qb u s) : BPost p Z Fo Qb u s := by
  obtain ⟨Z', H', h1, h2, h4⟩ := x
  exact ⟨Z', H', hz.trans h1, h2, h4⟩
theorem SPost.le {Qs : AF → LM → HM → Prop} {u : Flow} (hz : Le Z Z₁) (x : SPost p c Z₁ Fo Qs u s) : SPost p c Z Fo Qs u s := by
  obtain ⟨Z', ρ', H', af, h1, h2, h3, h4⟩ := x
  exact ⟨Z', ρ', H', af, hz.trans h1, h2, h3, h4⟩
theorem SPost.upd {Qs : AF → LM → HM → Prop} {u : Flow} {ρ₁ : LM} (x : SPost p c Z (Mine.upd Fo c.L ρ₁) Qs u s) : SPost p c Z Fo Qs u s := by
  obtain ⟨Z', ρ', H', af, h1, h2, h3, h4⟩ := x
  rw [upd_upd] at h2
  exact ⟨Z', ρ', H', af, h1, h2, h3, h4⟩
theorem UPost.le {Qs : LM → HM → Prop} {u : Unit} (hz : Le Z Z₁) (x : UPost p c Z₁ Fo Qs u s) : UPost p c Z Fo Qs u s := by
  obtain ⟨Z', ρ', H', h1, h2, h4⟩ := x
  exact ⟨Z', ρ', H', hz.trans h1, h2, h4⟩

theorem E_local {x : Str} {pos : Pos} {v : V} (hv : ρ.lookup x = some v) (h : Q v H) (hk : c.env.scope.kind = .function := by rfl) (hl : c.env.kindOf x = some .local := by rfl) (hd : (x == ("__debug__" : Str)) = false := by decide) :
    EW p c ρ H (eval (.Name x pos) c.env) Q X := fun Z Fo s hn => by
  obtain ⟨m, h1, h2⟩ := hn.st.fr _ _ hn.lo
  obtain ⟨u, hu, r⟩ := h2 x v hv
  exact wpAny_Name (wpAny_loadName_local hk hl h1 hu (.mk' hn.st r h)) hd
theorem E_cell {x : Str} {pos : Pos} {v : V} {a : Addr} (hc : c.env.cells.lookup x = some a) (hv : H a = some (.cell (some v))) (h : Q v H) (hk : c.env.scope.kind = .function := by rfl) (hl : c.env.kindOf x = some .cell := by rfl) (hd : (x == ("__debug__" : Str)) = false := by decide) :
    EW p c ρ H (eval (.Name x pos) c.env) Q X := fun Z Fo s hn => by
  obtain ⟨u, h1, u', rfl, r⟩ := hn.st.own a _ hv
  exact wpAny_Name (wpAny_loadName_cell hk hl hc h1 (.mk' hn.st r h)) hd
theorem E_glob {x : Str} {pos : Pos} {v : Value} {va : V} (e : nsIn (Mine.hd.heap_39 p.w.params) mainGlobals x = some (some v)) (r : ∀ Z, RepV Z va v) (h : Q va H) (hk : c.env.scope.kind = .function := by rfl) (hx : c.env.kindOf x = some .globalImplicit := by rfl)
    (hg : c.env.globals = mainGlobals := by rfl) (hd : (x == ("__debug__" : Str)) = false := by decide) :
    EW p c ρ H (eval (.Name x pos) c.env) Q X := fun Z Fo s hn =>
  Name_function_global hk hx (loadGlobal_global (by rw [hg]; exact p.T.g.keeps hn.st.base) (mg_of p.X p.T.g e) (.mk' hn.st (r _) h)) hd
theorem E_boot {x : Str} {pos : Pos} {v : Value} (e : nsIn (Mine.hd.heap_39 p.w.params) mainGlobals x = some none) (hv : bootBuiltins x = some v) (h : Q (.con v) H) (hnm : x ≠ "__name__" := by decide) (hk : c.env.scope.kind = .function := by rfl) (hx : c.env.kindOf x = some .globalImplicit := by rfl)
    (hg : c.env.globals = mainGlobals := by rfl) (hb : c.env.builtins = builtinsNs := by rfl) (hd : (x == ("__debug__" : Str)) = false := by decide) :
    EW p c ρ H (eval (.Name x pos) c.env) Q X := fun Z Fo s hn =>
  Name_function_global hk hx (loadGlobal_builtin (by rw [hg]; exact p.T.g.keeps hn.st.base) (mg_none_of p.X p.T.g e) (by rw [hb]; exact p.T.b.keeps hn.st.base) ((p.T.builtins x hnm).trans hv) (.mk' hn.st (.con _) h)) hd

theorem E_int {i : Int} {k : Nat} {pos : Pos} (h : Q (.int i) H) : EW p c ρ H (eval (.Constant (.int i) k pos) c.env) Q X := fun Z Fo s hn => wpAny_Constant_int (.mk' hn.st.toks (.int _ _) h)
theorem E_str {i : Str} {k : Nat} {pos : Pos} (h : Q (.str i) H) : EW p c ρ H (eval (.Constant (.str i) k pos) c.env) Q X := fun Z Fo s hn => Constant_str (.mk' hn.st.toks (.str _ _) h)
theorem E_bytes {i : List UInt8} {k : Nat} {pos : Pos} (h : Q (.bytes i) H) : EW p c ρ H (eval (.Constant (.bytes i) k pos) c.env) Q X := fun Z Fo s hn => by
  show wpAny _ _ (mkTextBytes i.toArray) _ _ _
  exact wpAny_mkTextBytes (.mk' hn.st.toks (.bytes _ _) h)
theorem E_bool {i : Bool} {k : Nat} {pos : Pos} (h : Q (.bool i) H) : EW p c ρ H (eval (.Constant (.bool i) k pos) c.env) Q X := fun Z Fo s hn => wpAny_pure (a := Value.bool i) (.mk' hn.st (.bool _) h)
theorem E_none {k : Nat} {pos : Pos} (h : Q .none H) : EW p c ρ H (eval (.Constant .none k pos) c.env) Q X := fun Z Fo s hn => wpAny_pure (a := Value.none) (.mk' hn.st .none h)

theorem E_BinOp {l r : Expr} {op : Operator} {pos : Pos} (h : EW p c ρ H (eval l c.env) (fun a H₁ => EW p c ρ H₁ (eval r c.env) (fun b H₂ => O2 p c ρ H₂ (binaryOp op) a b Q X) X) X) :
    EW p c ρ H (eval (.BinOp l op r pos) c.env) Q X := fun Z Fo s hn =>
  wpAny_BinOp (wpAny_mono (h Z Fo s hn) (fun u s₁ ⟨Z₁, H₁, a, z1, st1, ra, h1⟩ => wpAny_mono (h1 Z₁ Fo s₁ (hn.step st1)) (fun v s₂ ⟨Z₂, H₂, b, z2, st2, rb, h2⟩ =>
    toE (z1.trans z2) (h2 Z₂ Fo s₂ u v (hn.step st2) (ra.mono z2) rb) fun _ _ e => e.le (z1.trans z2)) fun _ _ e => e.mono z1) fun _ _ e => e)
theorem E_UnaryOp {x : Expr} {op : UnaryOp} {pos : Pos} (h : EW p c ρ H (eval x c.env) (fun a H₁ => O1 p c ρ H₁ (unaryOp op) a Q X) X) : EW p c ρ H (eval (.UnaryOp op x pos) c.env) Q X := fun Z Fo s hn =>
  wpAny_UnaryOp (wpAny_mono (h Z Fo s hn) (fun u s₁ ⟨Z₁, H₁, a, z1, st1, ra, h1⟩ => toE z1 (h1 Z₁ Fo s₁ u (hn.step st1) ra) fun _ _ e => e.le z1) fun _ _ e => e)
theorem E_Compare {l r : Expr} {op : CmpOp} {pos : Pos} (h : EW p c ρ H (eval l c.env) (fun a H₁ => EW p c ρ H₁ (eval r c.env) (fun b H₂ => O2 p c ρ H₂ (compareOp op) a b Q X) X) X)
    (hm : behindInMarks op r = false := by with_unfolding_all rfl) : EW p c ρ H (eval (.Compare l [op] [r] pos) c.env) Q X := fun Z Fo s hn =>
  wpAny_Compare1 (wpAny_mono (h Z Fo s hn) (fun u s₁ ⟨Z₁, H₁, a, z1, st1, ra, h1⟩ => wpAny_mono (h1 Z₁ Fo s₁ (hn.step st1)) (fun v s₂ ⟨Z₂, H₂, b, z2, st2, rb, h2⟩ =>
    toE (z1.trans z2) (h2 Z₂ Fo s₂ u v (hn.step st2) (ra.mono z2) rb) fun _ _ e => e.le (z1.trans z2)) fun _ _ e => e.mono z1) fun _ _ e => e) hm

variable {Qb : Bool → HM → Prop}
theorem B_Compare {l r : Expr} {op : CmpOp} {pos : Pos} {whole : Sem Value} (h : EW p c ρ H (eval l c.env) (fun a H₁ => EW p c ρ H₁ (eval r c.env) (fun b H₂ => O2 p c ρ H₂ (compareOp op) a b (fun v H₃ => B1 p c ρ H₃ truthy v Qb X) X) X) X)
    (hm : behindInMarks op r = false := by with_unfolding_all rfl) : BW p c ρ H (isTrue (.Compare l [op] [r] pos) c.env whole) Qb X := fun Z Fo s hn =>
  wpAny_isTrue_Compare1 (wpAny_mono (h Z Fo s hn) (fun u s₁ ⟨Z₁, H₁, a, z1, st1, ra, h1⟩ => wpAny_mono (h1 Z₁ Fo s₁ (hn.step st1)) (fun v s₂ ⟨Z₂, H₂, b, z2, st2, rb, h2⟩ =>
    wpAny_mono (h2 Z₂ Fo s₂ u v (hn.step st2) (ra.mono z2) rb) (fun x s₃ ⟨Z₃, H₃, vx, z3, st3, rx, h3⟩ => toE ((z1.trans z2).trans z3) (h3 Z₃ Fo s₃ x (hn.step st3) rx) fun _ _ e => e.le ((z1.trans z2).trans z3)) fun _ _ e => e.mono (z1.trans z2)) fun _ _ e => e.mono z1) fun _ _ e => e) hm
theorem B_Not {x : Expr} {pos : Pos} {whole : Sem Value} (h : BW p c ρ H (isTrue x c.env (eval x c.env)) (fun b => Qb (!b)) X) : BW p c ρ H (isTrue (.UnaryOp .Not x pos) c.env whole) Qb X := fun Z Fo s hn =>
  wpAny_isTrue_Not (h Z Fo s hn)
theorem B_value {e : Expr} {whole : Sem Value} (h : EW p c ρ H whole (fun v H₁ => B1 p c ρ H₁ truthy v Qb X) X) (he : isTrue e c.env whole = (do let v ← whole; standAt e.pos; holding [v] (truthy v)) := by rfl) : BW p c ρ H (isTrue e c.env whole) Qb X := fun Z Fo s hn =>
  wpAny_isTrue_value (wpAny_mono (h Z Fo s hn) (fun u s₁ ⟨Z₁, H₁, a, z1, st1, ra, h1⟩ => toE z1 (h1 Z₁ Fo s₁ u (hn.step st1) ra) fun _ _ e => e.le z1) fun _ _ e => e) he
theorem B_And {vs : List Expr} {op : BoolOp} {pos : Pos} {whole : Sem Value} (h : BW p c ρ H (allTrue op vs c.env) Qb X) : BW p c ρ H (isTrue (.BoolOp op vs pos) c.env whole) Qb X := fun Z Fo s hn =>
  wpAny_isTrue_BoolOp (h Z Fo s hn)
theorem B_And_nil (h : Qb true H) : BW p c ρ H (allTrue .And [] c.env) Qb X := fun Z Fo s hn => wpAny_allTrue_And_nil ⟨Z, H, Le.refl _, hn.st, h⟩
theorem B_Or_nil (h : Qb false H) : BW p c ρ H (allTrue .Or [] c.env) Qb X := fun Z Fo s hn => wpAny_allTrue_Or_nil ⟨Z, H, Le.refl _, hn.st, h⟩
theorem B_And_cons {x : Expr} {vs : List Expr} (h : BW p c ρ H (isTrue x c.env (eval x c.env)) (fun b H₁ => if b = true then BW p c ρ H₁ (allTrue .And vs c.env) Qb X else Qb false H₁) X) : BW p c ρ H (allTrue .And (x :: vs) c.env) Qb X := fun Z Fo s hn =>
  wpAny_allTrue_And_cons (wpAny_mono (h Z Fo s hn) (fun b s₁ ⟨Z₁, H₁, z1, st1, h1⟩ => by
    cases b with
    | true => simp only [if_true] at h1 ⊢; exact toE z1 (h1 Z₁ Fo s₁ (hn.step st1)) fun _ _ e => e.le z1
    | false => simp only [Bool.false_eq_true, if_false] at h1 ⊢; exact ⟨Z₁, H₁, z1, st1, h1⟩) fun _ _ e => e)
theorem B_Or_cons {x : Expr} {vs : List Expr} (h : BW p c ρ H (isTrue x c.env (eval x c.env)) (fun b H₁ => if b = true then Qb true H₁ else BW p c ρ H₁ (allTrue .Or vs c.env) Qb X) X) : BW p c ρ H (allTrue .Or (x :: vs) c.env) Qb X := fun Z Fo s hn =>
  wpAny_allTrue_Or_cons (wpAny_mono (h Z Fo s hn) (fun b s₁ ⟨Z₁, H₁, z1, st1, h1⟩ => by
    cases b with
    | true => simp only [if_true] at h1 ⊢; exact ⟨Z₁, H₁, z1, st1, h1⟩
    | false => simp only [Bool.false_eq_true, if_false] at h1 ⊢; exact toE z1 (h1 Z₁ Fo s₁ (hn.step st1)) fun _ _ e => e.le z1) fun _ _ e => e)
theorem E_IfExp {t b o : Expr} {pos : Pos} (h : BW p c ρ H (isTrue t c.env (eval t c.env)) (fun x H₁ => if x = true then EW p c ρ H₁ (eval b c.env) Q X else EW p c ρ H₁ (eval o c.env) Q X) X) : EW p c ρ H (eval (.IfExp t b o pos) c.env) Q X := fun Z Fo s hn =>
  wpAny_IfExp (wpAny_mono (h Z Fo s hn) (fun x s₁ ⟨Z₁, H₁, z1, st1, h1⟩ => by
    cases x with
    | true => simp only [if_true] at h1 ⊢; exact toE z1 (h1 Z₁ Fo s₁ (hn.step st1)) fun _ _ e => e.le z1
    | false => simp only [Bool.false_eq_true, if_false] at h1 ⊢; exact toE z1 (h1 Z₁ Fo s₁ (hn.step st1)) fun _ _ e => e.le z1) fun _ _ e => e)
end
end TextL3
section TextL4
open PySem PySem.W PyProof.Rows PySem.Calls
section
variable {p : Pm} {Z : GM} {Fo : FM} {H : HM} {B : Heap} {s : Shared} {e C d : Addr} {md : Option Value} {fs : List (Str × V)} {l : List Env}
variable {M : Model} {A : Around} {E : Value → Shared → Prop}

theorem Fly.frames (x : Fly p l Z Fo H B s e C d md fs) (h : FrOK Fo l) : s.heap.FunFrames B l := by
  have hid := x.hid
  have fr := x.st.fr
  clear x
  induction l with
  | nil => trivial
  | cons env l ih =>
    obtain ⟨h1, L, h2, ρ, h3⟩ := h env (.head _)
    obtain ⟨m, ⟨o, es, ep, ho, hd, _⟩, _⟩ := fr L ρ h3
    exact ⟨h1, ⟨L, o, h2, hid env (.head _) L h2, ho, fun vs q => by rw [hd] at q; cases q⟩, ih (fun env he => h env (.tail _ he)) fun env he => hid env (.tail _ he)⟩

theorem Fly.turn {h' : Heap} {md' : Option Value} (x : Fly p l Z Fo H B s e C d md fs) (stay : ∀ b o, B.get? b = some o → h'.get? b = some o) (sl : ∀ b o, s.heap.get? b = some o → (∀ vs, o.data ≠ .fields vs) → ∃ sl, h'.get? b = some { o with slots := sl })
    (ex : ExcAt B h' e C d md') : Fly p l Z Fo H B { s with heap := h' } e C d md' fs where
  st := { base := x.st.base, z := x.st.z, zb := x.st.zb, own := x.st.own, hb := x.st.hb, fb := x.st.fb, stay := stay, gens := x.st.gens, os := x.st.os,
          fr := fun b ρ e => let ⟨m, a, r⟩ := x.st.fr b ρ e; ⟨m, Heap.UpToSlots.ns (h := s.heap) sl a, r⟩ }
  ex := ex
  hid := x.hid
  at_ := x.at_
  new := x.new
  new' := x.new'

theorem fly_setFlight {fo : Option Addr} {fl : Value} {Q : Unit → Shared → Prop} (x : Fly p l Z Fo H B s e C d (some fl) fs) (h : ∀ s', Fly p l Z Fo H B s' e C d (some (fo.elim .none fun f => rawInt f)) fs → Q () s') :
    wpAny M A (setFlight (.ref e) fo) Q E s := by
  obtain ⟨vs, sl, he, hn, T, oT, ts, h1, hB, hTe, hT, hdT, h3⟩ := x.ex
  unfold setFlight
  refine wpAny_bind (wpAny_field he rfl h1 ?_)
  rw [if_pos (show (Value.ref T != Value.none) = true from by simp)]
  refine wpAny_setField hT hdT (Array.getElem?_eq_some_iff.mp h3).1 (h _ (x.turn (fun b o hb => ?_) (fun b o hb hnf => ?_) ?_))
  · rw [Heap.get?_update_other _ _ (fun q => by rw [← q, hB] at hb; cases hb)]; exact x.st.stay b o hb
  · refine ⟨o.slots, ?_⟩
    rw [Heap.get?_update_other _ _ (fun q => by rw [← q, hT] at hb; injection hb with hb; subst hb; exact hnf ts hdT)]; exact hb
  · refine ⟨vs, sl, ?_, hn, T, _, _, h1, hB, hTe, Heap.get?_update_self _ hT (Obj.isFreed_of_fields (Obj.data_mapFields hdT _)), Obj.data_mapFields hdT _, ?_⟩
    · rw [Heap.get?_update_other _ _ hTe]; exact he
    · have := (Array.getElem?_eq_some_iff.mp h3).1
      simp [this]

theorem fly_entry {env : Env} {outer : List Env} {L : Addr} {head : Value} {hadNext : Bool} {Q : Unit → Shared → Prop} (hfr : A.frames = some (env :: outer)) (hf : env.frame = some L) (ok : FrOK Fo (env :: outer)) (hmd : md = none ∨ ∃ v, md = some v)
    (x : Fly p (env :: outer) Z Fo H B s e C d md fs) (h : ∀ s', Fly p (env :: outer) Z Fo H B s' e C d (some (rawInt L)) fs → Q () s') :
    wpAny M A (do let a ← frameOf env; let pl ← entryPlaceOf L hadNext; let b ← EntryCells.newEntry head a .none (rawInt L) .none pl; setField (.ref e) 1 b) Q E s := by
  have hl := x.frames ok
  obtain ⟨vs, sl, he, hn, hmd'⟩ := x.ex
  have h1 : 1 < vs.size := by
    cases md with
    | none => exact (Array.getElem?_eq_some_iff.mp hmd').1
    | some v => obtain ⟨T, oT, ts, h1, _⟩ := hmd'; exact (Array.getElem?_eq_some_iff.mp h1).1
  have hene : e ∉ (env :: outer).filterMap (·.frame) := fun hm => by
    obtain ⟨_, o, ho, hnf⟩ := hl.mem hm
    rw [he] at ho; injection ho with ho; subst ho; exact hnf vs rfl
  refine wpAny_bind (wpAny_frameOf_fun hfr hl hf fun h₁ hs₁ => ?_)
  refine wpAny_bind (wpAny_entryPlaceOf fun pl hpl => ?_)
  unfold EntryCells.newEntry newFields
  refine wpAny_bind (wpAny_newObj_type ?_ (hpl.sizeOk5 _ _ _ _ _))
  have he₁ : h₁.get? e = some ⟨.ref C, some d, .fields vs, sl⟩ := (hs₁.2.1 e hene).trans he
  have kb₁ : ∀ b o, B.get? b = some o → h₁.get? b = some o := fun b o hbo => (hs₁.2.1 b fun hm => by rw [(hl.mem hm).1] at hbo; cases hbo).trans (x.st.stay b o hbo)
  generalize hob : ({ cls := .type "traceback", dict := none, data := .fields ([head, .ref L, .none, rawInt L, .none] ++ (if pl.isEmpty then List.replicate 6 Value.none else pl)).toArray } : Obj) = ob
  have hobd : ob.data = .fields ([head, .ref L, .none, rawInt L, .none] ++ (if pl.isEmpty then List.replicate 6 Value.none else pl)).toArray := by rw [← hob]
  have hobf : ob.isFreed = false := by rw [← hob]; rfl
  have he₂ := Heap.get?_push_of_some ob he₁
  have hTe : h₁.objs.size ≠ e := Nat.ne_of_gt (Heap.lt_size he₁)
  refine wpAny_setField he₂ rfl h1 (h _ (x.turn (fun b o hb => ?_) (fun b o hb hnf => ?_) ?_))
  · rw [Heap.get?_update_other _ _ (fun q => by rw [← q, hn] at hb; cases hb)]; exact Heap.get?_push_of_some _ (kb₁ b o hb)
  · obtain ⟨sl', hs⟩ := hs₁.2.2 b o hb
    refine ⟨sl', ?_⟩
    rw [Heap.get?_update_other _ _ (fun q => by rw [← q, he] at hb; injection hb with hb; subst hb; exact hnf vs rfl)]
    exact Heap.get?_push_of_some _ hs
  · refine ⟨vs.setIfInBounds 1 (.ref h₁.objs.size), sl, Heap.get?_update_self _ he₂ rfl, hn, h₁.objs.size, ob, _, by simp [h1], ?_, hTe, ?_, hobd, by simp⟩
    · cases hq : B.get? h₁.objs.size with
      | none => rfl
      | some o => exact absurd (Heap.lt_size (kb₁ _ _ hq)) (Nat.lt_irrefl _)
    · rw [Heap.get?_update_other _ _ (Ne.symm hTe)]
      exact Heap.get?_push_size _ hobf

theorem fly_note {env : Env} {outer : List Env} {L : Addr} {Q : Unit → Shared → Prop} (hfr : A.frames = some (env :: outer)) (hf : env.frame = some L) (ok : FrOK Fo (env :: outer)) (hmd : md = none ∨ md = some .none ∨ md = some (rawInt L))
    (x : Fly p (env :: outer) Z Fo H B s e C d md fs) (h : ∀ s', Fly p (env :: outer) Z Fo H B s' e C d (some (rawInt L)) fs → Q () s') : wpAny M A (noteFrame (.ref e) env) Q E s := by
  unfold noteFrame
  simp only [hf]
  rcases hmd with rfl | rfl | rfl
  · obtain ⟨vs, sl, he, hn, h1⟩ := x.ex
    refine wpAny_bind (wpAny_field he rfl h1 ?_)
    rw [if_neg (by decide)]
    exact fly_entry hfr hf ok (.inl rfl) x h
  · have x' := x
    obtain ⟨vs, sl, he, hn, T, oT, ts, h1, hB, hTe, hT, hdT, h3⟩ := x.ex
    refine wpAny_bind (wpAny_field he rfl h1 ?_)
    rw [if_pos (show (Value.ref T != Value.none) = true from by simp)]
    refine wpAny_bind (wpAny_field hT hdT h3 ?_)
    rw [if_neg (show ¬ ((Value.none == rawInt L) = true) from by simp [rawInt])]
    refine wpAny_bind (wpAny_setField hT hdT (Array.getElem?_eq_some_iff.mp h3).1 ?_)
    have y : Fly p (env :: outer) Z Fo H B { s with heap := s.heap.update T (Obj.mapFields (·.setIfInBounds 3 Value.none)) } e C d (some .none) fs := by
      refine x'.turn (fun b o hb => ?_) (fun b o hb hnf => ?_) ?_
      · rw [Heap.get?_update_other _ _ (fun q => by rw [← q, hB] at hb; cases hb)]; exact x'.st.stay b o hb
      · refine ⟨o.slots, ?_⟩
        rw [Heap.get?_update_other _ _ (fun q => by rw [← q, hT] at hb; injection hb with hb; subst hb; exact hnf ts hdT)]; exact hb
      · refine ⟨vs, sl, ?_, hn, T, _, _, h1, hB, hTe, Heap.get?_update_self _ hT (Obj.isFreed_of_fields (Obj.data_mapFields hdT _)), Obj.data_mapFields hdT _, ?_⟩
        · rw [Heap.get?_update_other _ _ hTe]; exact he
        · have := (Array.getElem?_eq_some_iff.mp h3).1
          simp [this]
    exact fly_entry hfr hf ok (.inr ⟨_, rfl⟩) y h
  · obtain ⟨vs, sl, he, hn, T, oT, ts, h1, hB, hTe, hT, hdT, h3⟩ := x.ex
    refine wpAny_bind (wpAny_field he rfl h1 ?_)
    rw [if_pos (show (Value.ref T != Value.none) = true from by simp)]
    refine wpAny_bind (wpAny_field hT hdT h3 ?_)
    rw [if_pos (show (rawInt L == rawInt L) = true from by simp)]
    exact wpAny_pure (h s x)
end

section
variable {p : Pm} {c : Cx} {Z : GM} {Fo : FM} {s : Shared} {X : XQ} {u : Value}

def Cx.Top (c : Cx) : Prop := ∃ outer L, c.fr = c.env :: outer ∧ c.env.frame = some L

theorem XPost.noted {E : Value → Shared → Prop} (hc : c.Top) (ok : FrOK Fo c.fr) (x : XPost p c Z Fo X u s)
    (h : ∀ s', XPost p c Z Fo X u s' → wpAny (M p) c.A (do
      if (← field u 1) == .none then unsupported "frame.own-activation:exception-without-traceback"
      setFlight u c.env.frame) (fun _ s'' => XPost p c Z Fo X u s'') (XPost p c Z Fo X) s' → E u s') : notedBy (M p) c.A c.env E u s := by
  obtain ⟨outer, L, hfr, hf⟩ := hc
  obtain ⟨Z', ρ', H', B, e, C, d, md, fs, rfl, hz, fl, hmd, hx⟩ := x
  have hmd' : md = none ∨ md = some .none ∨ md = some (rawInt L) := hmd.imp_right fun q => q.imp_right fun ⟨L', a, b⟩ => by rw [hf] at a; cases a; exact b
  rw [hfr] at fl ok
  unfold notedBy
  refine fly_note (by show some c.fr = _; rw [hfr]) hf ok.upd hmd' fl fun s' fl' => h s' ?_ ?_
  · exact ⟨Z', ρ', H', B, e, C, d, some (rawInt L), fs, rfl, hz, by rw [hfr]; exact fl', .inr (.inr ⟨L, hf, rfl⟩), hx⟩
  · obtain ⟨vs, sl, he, hn, T, oT, ts, h1, hB, hTe, hT, hdT, h3⟩ := fl'.ex
    refine wpAny_bind (wpAny_field he rfl h1 ?_)
    rw [if_neg (by simp), hf]
    refine fly_setFlight fl' fun s'' fl'' => ⟨Z', ρ', H', B, e, C, d, _, fs, rfl, hz, by rw [hfr]; exact fl'', .inr (.inr ⟨L, hf, rfl⟩), hx⟩
end
section
variable {p : Pm} {c : Cx} {ρ : LM} {H : HM} {Z Z₁ : GM} {Fo : FM} {s s' : Shared} {X : XQ} {Q : AF → LM → HM → Prop}

theorem S_nil (h : Q .next ρ H) : SW p c ρ H (execs [] c.env) Q X := fun Z Fo s hn => wpAny_execs_nil ⟨Z, ρ, H, .next, Le.refl _, by rw [upd_self hn.lo]; exact hn.st, .next, h⟩
theorem S_cons {st : Stmt} {rest : List Stmt} (h : SW p c ρ H (exec st c.env) (fun f ρ₁ H₁ => match f with | .next => SW p c ρ₁ H₁ (execs rest c.env) Q X | f => Q f ρ₁ H₁) X) : SW p c ρ H (execs (st :: rest) c.env) Q X := fun Z Fo s hn =>
  wpAny_execs_cons (wpAny_mono (h Z Fo s hn) (fun f s₁ ⟨Z₁, ρ₁, H₁, af, z1, st1, rf, h1⟩ => by
    cases rf with
    | next => exact wpAny_mono (h1 Z₁ _ s₁ (hn.stepL st1)) (fun f s₂ e => (e.le z1).upd) fun _ _ e => (e.mono z1).upd
    | brk => exact ⟨Z₁, ρ₁, H₁, _, z1, st1, .brk, h1⟩
    | cont => exact ⟨Z₁, ρ₁, H₁, _, z1, st1, .cont, h1⟩
    | ret r => exact ⟨Z₁, ρ₁, H₁, _, z1, st1, .ret r, h1⟩) fun _ _ e => e)
theorem EPost.toS {u : Value} {Qv : V → HM → Prop} {f : Flow} (hn : Now p c Z Fo ρ H s) {Q : AF → LM → HM → Prop} (h : EPost p Z Fo Qv u s') (k : ∀ Z' v H', RepV Z' v u → Qv v H' → ∃ af, RepFl Z' af f ∧ Q af ρ H') : SPost p c Z Fo Q f s' := by
  obtain ⟨Z', H', v, z, st, r, q⟩ := h
  obtain ⟨af, h1, h2⟩ := k Z' v H' r q
  exact ⟨Z', ρ, H', af, z, by rw [upd_self hn.lo]; exact st, h1, h2⟩
theorem S_Return {e : Expr} {pos : Pos} (h : EW p c ρ H (eval e c.env) (fun v H₁ => Q (.ret v) ρ H₁) X) : SW p c ρ H (exec (.Return (some e) pos) c.env) Q X := fun Z Fo s hn =>
  wpAny_Return_some (wpAny_mono (h Z Fo s hn) (fun u s₁ e => e.toS hn fun Z' v H' r q => ⟨.ret v, .ret r, q⟩) fun _ _ e => e)
theorem S_Return0 {pos : Pos} (h : Q (.ret .none) ρ H) : SW p c ρ H (exec (.Return none pos) c.env) Q X := fun Z Fo s hn =>
  wpAny_Return_none ⟨Z, ρ, H, _, Le.refl _, by rw [upd_self hn.lo]; exact hn.st, .ret .none, h⟩
theorem S_Expr {e : Expr} {pos : Pos} (h : EW p c ρ H (eval e c.env) (fun v H₁ => Q .next ρ H₁) X) (hi : interactive c.env = false := by rfl) (hs : swapsWith e none pos.line c.env = pure false := by rfl) : SW p c ρ H (exec (.Expr e pos) c.env) Q X := fun Z Fo s hn =>
  wpAny_Expr_any (wpAny_mono (h Z Fo s hn) (fun u s₁ e => e.toS hn fun Z' v H' r q => ⟨.next, .next, q⟩) fun _ _ e => e) hi hs
theorem S_If {t : Expr} {b o : List Stmt} {pos : Pos} (h : BW p c ρ H (isTrue t c.env (eval t c.env)) (fun x H₁ => if x = true then SW p c ρ H₁ (execs b c.env) Q X else SW p c ρ H₁ (execs o c.env) Q X) X) : SW p c ρ H (exec (.If t b o pos) c.env) Q X := fun Z Fo s hn =>
  wpAny_If (wpAny_mono (h Z Fo s hn) (fun x s₁ ⟨Z₁, H₁, z1, st1, h1⟩ => by
    cases x with
    | true => simp only [if_true] at h1 ⊢; exact toE z1 (h1 Z₁ Fo s₁ (hn.step st1)) fun _ _ e => e.le z1
    | false => simp only [Bool.false_eq_true, if_false] at h1 ⊢; exact toE z1 (h1 Z₁ Fo s₁ (hn.step st1)) fun _ _ e => e.le z1) fun _ _ e => e)

theorem lookup_cons_eq {x y : Str} {v : V} : List.lookup y ((x, v) :: ρ) = if y = x then some v else ρ.lookup y := by
  rw [List.lookup_cons]
  by_cases h : y = x
  · subst h; simp
  · rw [if_neg h]
    have : (y == x) = false := by simpa using h
    rw [this]
theorem RepM.cons {x : Str} {v : V} {u : Value} {m : Str → Option Value} (h : RepM Z ρ m) (r : RepV Z v u) : RepM Z ((x, v) :: ρ) (fun y => if y = x then some u else m y) := fun y w e => by
  rw [lookup_cons_eq] at e
  dsimp only
  by_cases hy : y = x
  · rw [if_pos hy] at e ⊢; cases e; exact ⟨u, rfl, r⟩
  · rw [if_neg hy] at e ⊢; exact h y w e
theorem U_cell {x : Str} {v : V} {a : Addr} {v₀ : Option V} {Qu : LM → HM → Prop} (hc : c.env.cells.lookup x = some a) (hv : H a = some (.cell v₀)) (h : Qu ρ (upd H a (.cell (some v)))) (hk : c.env.scope.kind = .function := by rfl) (hl : c.env.kindOf x = some .cell := by rfl) :
    U1 p c ρ H (storeName c.env x) v Qu X := fun Z Fo s u hn r => by
  obtain ⟨u₀, h1, h2⟩ := hn.st.own a _ hv
  refine wpAny_storeName_cell hk hl hc h1 fun h' hi hs => ?_
  refine ⟨Z, ρ, _, Le.refl _, ?_, h⟩
  rw [upd_self hn.lo]
  exact hn.st.put hv hs.extBut ⟨some u, hi, u, rfl, r⟩
theorem S_Assign {x : Str} {e : Expr} {pos' pos : Pos} (h : EW p c ρ H (eval e c.env) (fun v H₁ => U1 p c ρ H₁ (storeName c.env x) v (fun ρ₂ H₂ => Q .next ρ₂ H₂) X) X) (hs : swapsWith e (some (.Name x pos')) pos.line c.env = pure false := by rfl) :
    SW p c ρ H (exec (.Assign [.Name x pos'] e pos) c.env) Q X := fun Z Fo s hn =>
  wpAny_Assign_Name (wpAny_mono (h Z Fo s hn) (fun u s₁ ⟨Z₁, H₁, v, z1, st1, r1, h1⟩ => wpAny_mono (h1 Z₁ Fo s₁ u (hn.step st1) r1) (fun _ s₂ ⟨Z₂, ρ₂, H₂, z2, st2, h2⟩ => ⟨Z₂, ρ₂, H₂, .next, z1.trans z2, st2, .next, h2⟩) fun _ _ e => e.mono z1) fun _ _ e => e) hs
theorem S_AssignAttr {o e : Expr} {a : Str} {pos' pos : Pos} (h : EW p c ρ H (eval e c.env) (fun v H₁ => EW p c ρ H₁ (eval o c.env) (fun w H₂ => U2 p c ρ H₂ (fun ov v => setAttr ov a v) w v (fun ρ₂ H₂ => Q .next ρ₂ H₂) X) X) X)
    (hs : swapsWith e (some (.Attribute o a pos')) pos.line c.env = pure false := by rfl) : SW p c ρ H (exec (.Assign [.Attribute o a pos'] e pos) c.env) Q X := fun Z Fo s hn =>
  plainObj_wpAny_Assign_Attribute (wpAny_mono (h Z Fo s hn) (fun u s₁ ⟨Z₁, H₁, v, z1, st1, r1, h1⟩ => wpAny_mono (h1 Z₁ Fo s₁ (hn.step st1)) (fun u₂ s₂ ⟨Z₂, H₂, w, z2, st2, r2, h2⟩ =>
    wpAny_mono (h2 Z₂ Fo s₂ _ _ (hn.step st2) r2 (r1.mono z2)) (fun _ s₃ ⟨Z₃, ρ₃, H₃, z3, st3, h3⟩ => ⟨Z₃, ρ₃, H₃, .next, (z1.trans z2).trans z3, st3, .next, h3⟩) fun _ _ e => e.mono (z1.trans z2)) fun _ _ e => e.mono z1) fun _ _ e => e) hs
theorem S_AssignSub {o i e : Expr} {pos' pos : Pos} (h : EW p c ρ H (eval e c.env) (fun v H₁ => EW p c ρ H₁ (eval o c.env) (fun w H₂ => EW p c ρ H₂ (eval i c.env) (fun k H₃ => U3 p c ρ H₃ setItem w k v (fun ρ₂ H₂ => Q .next ρ₂ H₂) X) X) X) X)
    (hs : swapsWith e (some (.Subscript o i pos')) pos.line c.env = pure false := by rfl) : SW p c ρ H (exec (.Assign [.Subscript o i pos'] e pos) c.env) Q X := fun Z Fo s hn =>
  wpAny_Assign_Subscript (wpAny_mono (h Z Fo s hn) (fun u s₁ ⟨Z₁, H₁, v, z1, st1, r1, h1⟩ => wpAny_mono (h1 Z₁ Fo s₁ (hn.step st1)) (fun u₂ s₂ ⟨Z₂, H₂, w, z2, st2, r2, h2⟩ =>
    wpAny_mono (h2 Z₂ Fo s₂ (hn.step st2)) (fun u₃ s₃ ⟨Z₃, H₃, k, z3, st3, r3, h3⟩ => wpAny_mono (h3 Z₃ Fo s₃ _ _ _ (hn.step st3) (r2.mono z3) r3 ((r1.mono z2).mono z3))
      (fun _ s₄ ⟨Z₄, ρ₄, H₄, z4, st4, h4⟩ => ⟨Z₄, ρ₄, H₄, .next, ((z1.trans z2).trans z3).trans z4, st4, .next, h4⟩) fun _ _ e => e.mono ((z1.trans z2).trans z3)) fun _ _ e => e.mono (z1.trans z2)) fun _ _ e => e.mono z1) fun _ _ e => e) hs

theorem S_While {t : Expr} {b o : List Stmt} {pos : Pos} (hc : c.Top) (I : Nat → LM → HM → Prop)
    (turn : ∀ n ρ H, I n ρ H → BW p c ρ H (isTrue t c.env (eval t c.env)) (fun x H₁ => if x = true then SW p c ρ H₁ (execs b c.env) (fun f ρ₂ H₂ => match f with
        | .next | .cont => ∃ m, m < n ∧ I m ρ₂ H₂
        | .brk => Q .next ρ₂ H₂
        | .ret v => Q (.ret v) ρ₂ H₂) X else SW p c ρ H₁ (execs o c.env) Q X) X)
    (n : Nat) (h : I n ρ H) : SW p c ρ H (exec (.While t b o pos) c.env) Q X := fun Z Fo s hn => by
  have back : ∀ u s' Z₁ ρ₁, Le Z Z₁ → XPost p c Z₁ (upd Fo c.L ρ₁) X u s' → notedBy (M p) c.A c.env (cameBackBy (M p) c.A c.env (XPost p c Z Fo X)) u s' := fun u s' Z₁ ρ₁ z x => ((x.mono z).upd).noted hc hn.fr fun s'' h1 h2 => h2
  refine wpAny_While (codeAny_whileLoop (fun k s' => ∃ Z₁ ρ₁ H₁, Le Z Z₁ ∧ StP p Z₁ (upd Fo c.L ρ₁) H₁ s' ∧ I k ρ₁ H₁) ?_ n ⟨Z, ρ, H, Le.refl _, by rw [upd_self hn.lo]; exact hn.st, h⟩)
  rintro k s' ⟨Z₁, ρ₁, H₁, z1, st1, hI⟩
  have hn1 := hn.stepL st1
  refine wpAny_mono (turn k ρ₁ H₁ hI Z₁ _ s' hn1) (fun x s₂ ⟨Z₂, H₂, z2, st2, h2⟩ => ?_) (fun u s₂ e => back u s₂ Z₁ ρ₁ z1 e)
  have hn2 := hn1.step st2
  cases x with
  | true =>
    simp only [if_true] at h2 ⊢
    refine wpAny_mono (h2 Z₂ _ s₂ hn2) (fun f s₃ ⟨Z₃, ρ₃, H₃, af, z3, st3, rf, h3⟩ => ?_) (fun u s₂ e => back u s₂ Z₂ ρ₁ (z1.trans z2) e)
    rw [upd_upd] at st3
    cases rf with
    | next => obtain ⟨m, hm, hI⟩ := h3; exact ⟨m, hm, Z₃, ρ₃, H₃, (z1.trans z2).trans z3, st3, hI⟩
    | cont => obtain ⟨m, hm, hI⟩ := h3; exact ⟨m, hm, Z₃, ρ₃, H₃, (z1.trans z2).trans z3, st3, hI⟩
    | brk => exact ⟨Z₃, ρ₃, H₃, .next, (z1.trans z2).trans z3, st3, .next, h3⟩
    | ret r => exact ⟨Z₃, ρ₃, H₃, _, (z1.trans z2).trans z3, st3, .ret r, h3⟩
  | false =>
    simp only [Bool.false_eq_true, if_false] at h2 ⊢
    refine wpAny_mono (h2 Z₂ _ s₂ hn2) (fun f s₃ ⟨Z₃, ρ₃, H₃, af, z3, st3, rf, h3⟩ => ?_) (fun u s₂ e => back u s₂ Z₂ ρ₁ (z1.trans z2) e)
    rw [upd_upd] at st3
    exact ⟨Z₃, ρ₃, H₃, af, (z1.trans z2).trans z3, st3, rf, h3⟩
end
end TextL4
section TextL5
open PySem PySem.W PyProof.Rows PySem.Calls
theorem wpAny_AR {α : Type} {M : Model} {A : Around} {n : Nat} {l : List Env} {t : Sem α} {Q : α → Shared → Prop} {E : Value → Shared → Prop} {s : Shared} (h : wpAny M (AR n l) t Q E s) (hh : A.handled = none) (hd : A.depth ≤ 998 - n) (hf : A.frames = some l) (hu : A.units ≤ 9000 - 10 * n) : wpAny M A t Q E s :=
  fun Γ p hΓ => h Γ p ⟨hΓ.1.trans hh, Nat.le_trans hΓ.2.1 hd, fun l' e => (by cases e; exact hΓ.2.2.1 l hf), fun g e => (by cases e), Nat.le_trans hΓ.2.2.2.2 hu⟩
theorem codeAny_AR {M : Model} {A : Around} {n : Nat} {l : List Env} {t : Code} {R : Result → Shared → Prop} {s : Shared} (h : codeAny M (AR n l) t R s) (hh : A.handled = none) (hd : A.depth ≤ 998 - n) (hf : A.frames = some l) (hu : A.units ≤ 9000 - 10 * n) : codeAny M A t R s :=
  fun Γ p hc hΓ => h Γ p hc ⟨hΓ.1.trans hh, Nat.le_trans hΓ.2.1 hd, fun l' e => (by cases e; exact hΓ.2.2.1 l hf), fun g e => (by cases e), Nat.le_trans hΓ.2.2.2.2 hu⟩

section
variable {p : Pm} {c : Cx} {ρ : LM} {H : HM} {Z Z₁ : GM} {Fo : FM} {s s' : Shared} {X : XQ} {Q : V → HM → Prop}

variable {Ql : List V → HM → Prop}
theorem Es_nil {pos : Pos} (h : Ql [] H) : EWs p c ρ H (spliced (backTo pos (starEach [] c.env))) Ql X := fun Z Fo s hn => spliced_nil ⟨Z, H, [], Le.refl _, hn.st, .nil, h⟩
theorem Es_cons {e : Expr} {rest : List Expr} {pos : Pos} (h : EW p c ρ H (eval e c.env) (fun v H₁ => EWs p c ρ H₁ (spliced (backTo pos (starEach rest c.env))) (fun vs H₂ => Ql (v :: vs) H₂) X) X)
    (he : backTo pos (starEach (e :: rest) c.env) = (false, eval e c.env) :: backTo pos (starEach rest c.env) := by with_unfolding_all rfl) : EWs p c ρ H (spliced (backTo pos (starEach (e :: rest) c.env))) Ql X := fun Z Fo s hn => by
  rw [he]
  exact spliced_cons (wpAny_mono (h Z Fo s hn) (fun u s₁ ⟨Z₁, H₁, v, z1, st1, r1, h1⟩ => wpAny_mono (h1 Z₁ Fo s₁ (hn.step st1)) (fun us s₂ ⟨Z₂, H₂, vs, z2, st2, r2, h2⟩ => ⟨Z₂, H₂, v :: vs, z1.trans z2, st2, RepVs.cons (r1.mono z2) r2, h2⟩) fun _ _ e => e.mono z1) fun _ _ e => e)

theorem E_Tuple {es : List Expr} {k : Nat} {pos : Pos} (h : EWs p c ρ H (spliced (backTo pos (starEach es c.env))) (fun vs H₁ => vs.length ≤ 1000 ∧ Q (.tup vs) H₁) X) : EW p c ρ H (eval (.Tuple es k pos) c.env) Q X := fun Z Fo s hn =>
  Tuple_ (wpAny_mono (h Z Fo s hn) (fun us s₁ ⟨Z₁, H₁, vs, z1, st1, r1, hl, h1⟩ => by
    refine wpAny_newObj_type ?_ (by show us.toArray.size ≤ sizeLine; rw [List.size_toArray, ← r1.1, sizeLine_eq]; omega)
    have hnone : s₁.heap.get? s₁.heap.objs.size = none := Heap.get?_none_of_le (Nat.le_refl _)
    have hget : (s₁.heap.push { cls := .type "tuple", data := .seq us.toArray }).get? s₁.heap.objs.size = some { cls := .type "tuple", data := .seq us.toArray } := Heap.get?_push_size _ rfl
    obtain ⟨hle, st2⟩ := st1.frz (tk := s₁.toks) hnone (fun b o e => Heap.get?_push_of_some _ e) hget
    exact ⟨_, H₁, _, z1.trans hle, st2, .tup (upd_same ..) rfl rfl r1.1 fun i v u x y => (r1.2 i v u x y).mono hle, h1⟩) fun _ _ e => e)

theorem newList_W {vs : List V} {us : List Value} {Q : V → HM → Prop} (st : StP p Z Fo H s) (r : RepVs Z vs us) (hl : vs.length ≤ 16000000) (h : ∀ a, H a = none → Q (.ref a) (upd H a (.list vs))) : wpAny (M p) c.A (newList us) (EPost p Z Fo Q) (XPost p c Z Fo X) s := by
  refine wpAny_newObj_type ?_ (by show us.toArray.size ≤ sizeLine; rw [List.size_toArray, ← r.1, sizeLine_eq]; omega)
  have hnone : s.heap.get? s.heap.objs.size = none := Heap.get?_none_of_le (Nat.le_refl _)
  have hget : (s.heap.push { cls := .type "list", data := .seq us.toArray }).get? s.heap.objs.size = some { cls := .type "list", data := .seq us.toArray } := Heap.get?_push_size _ rfl
  obtain ⟨hH, hZ, hF, st2⟩ := st.new (tk := s.toks) (o' := .list vs) hnone (fun b o e => Heap.get?_push_of_some _ e) ⟨us, 0, hget, r⟩
  exact ⟨Z, _, _, Le.refl _, st2, .ref _, h _ hH⟩
theorem E_List {es : List Expr} {pos : Pos} (h : EWs p c ρ H (spliced (backTo pos (starEach es c.env))) (fun vs H₁ => vs.length ≤ 1000 ∧ ∀ a, H₁ a = none → Q (.ref a) (upd H₁ a (.list vs))) X) : EW p c ρ H (eval (.List es pos) c.env) Q X := fun Z Fo s hn =>
  List_ (wpAny_mono (h Z Fo s hn) (fun us s₁ ⟨Z₁, H₁, vs, z1, st1, r1, hl, h1⟩ => toE (c := c) z1 (newList_W st1 r1 (by omega) h1) fun _ _ e => e.le z1) fun _ _ e => e)

def KeepOK (p : Pm) (f : Value) : Prop := ∀ h, (Mine.hd.heap_39 p.w.params).In h → ∃ k, (k = Keeper.frame ∨ k = Keeper.machine ∨ k = Keeper.boundFrame) ∧ Looks (M p) h (keeperOf f) k
theorem KeepOK.type {n : String} : KeepOK p (.type n) := fun h _ => ⟨.machine, .inr (.inl rfl), Looks.of_pure rfl⟩
theorem KeepOK.builtin {n : String} : KeepOK p (.builtin n) := fun h _ => ⟨.machine, .inr (.inl rfl), Looks.of_pure rfl⟩
theorem KeepOK.ref {a : Addr} (h : keepIn (Mine.hd.heap_39 p.w.params) (.ref a) = true) : KeepOK p (.ref a) := fun g X => keeps_K h g X

theorem evalArgs_all {M : Model} {A : Around} {E : Value → Shared → Prop} {s : Shared} {f : Value} {Q : Args → Shared → Prop} : ∀ {l : List (Bool × Sem Value)}, l.any (·.1) = false → wpAny M A (spliced l) (fun vs s' => Q ⟨vs, []⟩ s') E s → wpAny M A (evalArgs f true l []) Q E s
  | [], _, h => by
    unfold evalArgs
    show wpAny M A (spliced [] >>= _) Q E s
    refine wpAny_bind (wpAny_mono h (fun vs s' h' => ?_) fun _ _ x => x)
    refine wpAny_bind (wpAny_pure ?_)
    refine wpAny_holding ?_
    exact wpAny_bind (wpAny_pure (wpAny_bind (wpAny_pure (wpAny_pure h'))))
  | (false, x) :: l, _, h => evalArgs_plain h
  | (true, x) :: l, q, _ => by cases q

theorem callWith_W {pos : Pos} {f : Value} {first : List V} {ufirst : List Value} {args : List Expr} (hn : Now p c Z Fo ρ H s) (hf : KeepOK p f) (rf : RepVs Z first ufirst) (hp : (backTo pos (starEach args c.env)).any (·.1) = false)
    (h : EWs p c ρ H (spliced (backTo pos (starEach args c.env))) (fun vs H₁ => Os p c ρ H₁ (fun us => call f us) (first ++ vs) Q X) X) :
    wpAny (M p) c.A (callWith pos f ufirst (backTo pos (starEach args c.env)) []) (EPost p Z Fo Q) (XPost p c Z Fo X) s :=
  callWith_of (P := fun h => (Mine.hd.heap_39 p.w.params).In h) (by rw [hp]; rfl) hf (evalArgs_all hp (wpAny_mono (h Z Fo s hn) (fun us s₁ ⟨Z₁, H₁, vs, z1, st1, r1, h1⟩ => ⟨p.X.keeps st1.base, toE (c := c) z1 (h1 Z₁ Fo s₁ _ (hn.step st1) ((rf.mono z1).append r1)) fun _ _ e => e.le z1⟩) fun _ _ e => e))

theorem E_CallName {x : Str} {np pos : Pos} {args : List Expr} (h : EW p c ρ H (eval (.Name x np) c.env) (fun vf H₁ => ∃ f, vf = .con f ∧ KeepOK p f ∧ EWs p c ρ H₁ (spliced (backTo pos (starEach args c.env))) (fun vs H₂ => Os p c ρ H₂ (fun us => call f us) vs Q X) X) X)
    (hp : (backTo pos (starEach args c.env)).any (·.1) = false := by with_unfolding_all rfl) : EW p c ρ H (eval (.Call (.Name x np) args [] pos) c.env) Q X := fun Z Fo s hn =>
  wpAny_Call_ofName (wpAny_mono (h Z Fo s hn) (fun u s₁ ⟨Z₁, H₁, vf, z1, st1, r1, f, e, hf, h1⟩ => by
    subst e
    cases r1
    exact toE (c := c) z1 (callWith_W (hn.step st1) hf .nil hp h1) fun _ _ e => e.le z1) fun _ _ e => e)

def G1 (p : Pm) (c : Cx) (ρ : LM) (H : HM) (name : Str) (o : V) (Q : Value → List V → HM → Prop) (X : XQ) : Prop :=
  ∀ Z Fo s u pl, Now p c Z Fo ρ H s → RepV Z o u → wpAny (M p) c.A (getMethod u name pl) (fun r s' => ∃ Z' H' first, Le Z Z' ∧ StP p Z' Fo H' s' ∧ RepVs Z' first r.2 ∧ Q r.1 first H') (XPost p c Z Fo X) s

theorem E_CallMeth {o : Expr} {name : Str} {apos pos : Pos} {args : List Expr} {pl : Sem Bool} (h : EW p c ρ H (eval o c.env) (fun vo H₁ => G1 p c ρ H₁ name vo (fun f first H₂ => KeepOK p f ∧ EWs p c ρ H₂ (spliced (backTo pos (starEach args c.env))) (fun vs H₃ => Os p c ρ H₃ (fun us => call f us) (first ++ vs) Q X) X) X) X)
    (he : eval (.Call (.Attribute o name apos) args [] pos) c.env = (do
      let ov ← eval o c.env
      standAt apos.atName
      let (f, first) ← holding [ov] (getMethod ov name pl)
      callWith pos f first (backTo pos (starEach args c.env)) []) := by with_unfolding_all rfl)
    (hp : (backTo pos (starEach args c.env)).any (·.1) = false := by with_unfolding_all rfl) : EW p c ρ H (eval (.Call (.Attribute o name apos) args [] pos) c.env) Q X := fun Z Fo s hn =>
  MethodCall_ (wpAny_mono (h Z Fo s hn) (fun u s₁ ⟨Z₁, H₁, vo, z1, st1, r1, h1⟩ => wpAny_mono (h1 Z₁ Fo s₁ u pl (hn.step st1) r1) (fun fx s₂ ⟨Z₂, H₂, first, z2, st2, r2, hf, h2⟩ =>
    toE (c := c) (z1.trans z2) (callWith_W (hn.step st2) hf r2 hp h2) fun _ _ e => e.le (z1.trans z2)) fun _ _ e => e.mono z1) fun _ _ e => e) he

def CW (p : Pm) (n : Nat) (f : Value) (vs : List V) (H : HM) (Q : V → HM → Prop) (X : Addr → LM → HM → Prop) : Prop :=
  ∀ c ρ, n ≤ c.n → p.g.objs.size ≤ c.L → ∀ Z Fo s us, Now p c Z Fo ρ H s → RepVs Z vs us → codeAny (M p) c.A (.call f ⟨us, []⟩) (fun r s' => match r with | .ok (.ret u) => EPost p Z Fo Q u s' | .ok _ => False | .error e => XPost p c Z Fo (fun C fs ρ' H' => ρ' = ρ ∧ X C fs H') e s') s

theorem CW.use {n : Nat} {f : Value} {vs : List V} {Xc : Addr → LM → HM → Prop} (h : CW p n f vs H Q Xc) (hn : n ≤ c.n) (hL : p.g.objs.size ≤ c.L) (hx : ∀ C fs H', Xc C fs H' → X C fs ρ H') : Os p c ρ H (fun us => call f us) vs Q X :=
  fun Z Fo s us hnow r => wpAny_call (codeAny_mono (h c ρ hn hL Z Fo s us hnow r) (fun r s' => by
    rcases r with e | (v | _ | _ | _) <;> intro z
    · exact z.weaken fun C fs ρ' H' q => by obtain ⟨rfl, q⟩ := q; exact hx _ _ _ q
    all_goals exact z))
theorem CW.mono {n n' : Nat} {f : Value} {vs : List V} {Xc Xc' : Addr → LM → HM → Prop} {Q' : V → HM → Prop} (h : CW p n f vs H Q Xc) (hn : n ≤ n') (hq : ∀ v H, Q v H → Q' v H) (hx : ∀ C fs H, Xc C fs H → Xc' C fs H) : CW p n' f vs H Q' Xc' :=
  fun c ρ hc hL Z Fo s us hnow r => codeAny_mono (h c ρ (Nat.le_trans hn hc) hL Z Fo s us hnow r) (fun r s' => by
    rcases r with e | (v | _ | _ | _) <;> intro z
    · exact z.weaken fun C fs ρ' H' q => ⟨q.1, hx _ _ _ q.2⟩
    · exact z
    · exact z
    · exact z
    · obtain ⟨Z', H', v, h1, h2, h3, h4⟩ := z; exact ⟨Z', H', v, h1, h2, h3, hq _ _ h4⟩)

def retV : AF → V
  | .ret v => v
  | _ => .none

theorem lookup_zip_rev {α : Type} : ∀ {xs : List Str} {us : List α}, xs.Nodup → ∀ y, (xs.zip us).reverse.lookup y = (xs.zip us).lookup y
  | [], us, _, y => by simp
  | x :: xs, [], _, y => by simp
  | x :: xs, u :: us, h, y => by
    rw [List.nodup_cons] at h
    rw [List.zip_cons_cons, List.reverse_cons, List.lookup_append, lookup_zip_rev h.2 y, List.lookup_cons, List.lookup_cons]
    by_cases hy : y = x
    · subst hy
      have : (xs.zip us).lookup y = none := by
        rw [List.lookup_eq_none_iff]
        intro q hq
        have := (List.of_mem_zip (a := q.1) (b := q.2) hq).1
        simp only [bne_iff_ne, ne_eq]
        intro e
        rw [e] at h
        exact h.1 this
      rw [this]; simp
    · have : (y == x) = false := by simpa using hy
      rw [this]; simp
theorem repM_zip {xs : List Str} : ∀ {vs : List V} {us : List Value}, RepVs Z vs us → ∀ x v, (xs.zip vs).lookup x = some v → ∃ u, (xs.zip us).lookup x = some u ∧ RepV Z v u := by
  induction xs with
  | nil => intro vs us r x v h; simp at h
  | cons y ys ih =>
    intro vs us r x v h
    cases vs with
    | nil => simp at h
    | cons a vs =>
      obtain ⟨u, us, rfl, r1, r2⟩ := r.inv
      rw [List.zip_cons_cons, List.lookup_cons] at h ⊢
      cases hb : x == y with
      | true => rw [hb] at h; cases h; exact ⟨u, rfl, r1⟩
      | false => rw [hb] at h; exact ih r2 x v h

def callCx (c : Cx) (fd : FuncData) (L f : Addr) : Cx := ⟨callEnv fd L f, callEnv fd L f :: c.fr, c.n - 1⟩

theorem CW_def {n : Nat} {f : Addr} {o : Obj} {fd : FuncData} {body : List Stmt} {xs : List Str} {vs dvs : List V} {Xc : Addr → LM → HM → Prop} (ho : (Mine.hd.heap_39 p.w.params).lookup f = some o) (hdat : o.data = .func fd) (hcd : codeIn (Mine.hd.heap_39 p.w.params) fd.code fd.qualname = true) (hbody : fd.body = .stmts body)
    (hb : ∀ (s : Shared) us, (Mine.hd.heap_39 p.w.params).In s.heap → us.length = vs.length → ∃ ds, BindsTo s fd ⟨us, []⟩ (xs.zip (us ++ ds)) ∧ ∀ Z, RepVs Z dvs ds)
    (hxs : xs.Nodup) (hcell : ∀ x ∈ fd.scope.names, x.2 ≠ .cell) (hloc : ∀ x ∈ xs, fd.scope.names.lookup x = some .local)
    (hco : fd.scope.isCoroutine = false) (hgen : fd.scope.isGenerator = false) (hk : fd.scope.kind = .function) (hn1 : 1 ≤ n)
    (h : ∀ (L : Addr) (c : Cx), n ≤ c.n → p.g.objs.size ≤ L → H L = none → SW p (callCx c fd L f) (xs.zip (vs ++ dvs)) H (execs body (callCx c fd L f).env) (fun af _ H' => Q (retV af) H') (fun C fs _ H' => Xc C fs H')) :
    CW p n (.ref f) vs H Q Xc := fun c ρ hnc hL Z Fo s us hnow r => by
  have hX := p.X.keeps hnow.st.base
  obtain ⟨ds, hbind, rd⟩ := hb s us hX r.1.symm
  have hroom : c.A.depth < recursionLimit := by show 998 - c.n < 1000; omega
  refine (codeAny_call_def hroom (hX _ _ ho) hdat (p.T.nolimit.keeps hnow.st.base) (codeRec_of hX hcd) hbody hbind hcell (fun x hx => hloc _ (List.of_mem_zip (a := x.1) (b := x.2) hx).1) (fun h₀ hns hk₀ => ?_) hco hgen hk)
  have hnone : s.heap.get? s.heap.objs.size = none := Heap.get?_none_of_le (Nat.le_refl _)
  have hlt : p.g.objs.size ≤ s.heap.objs.size := by
    obtain ⟨m, ⟨oo, _, _, h1, _⟩, _⟩ := hnow.st.fr _ _ hnow.lo
    exact Nat.le_trans hL (Nat.le_of_lt (Heap.lt_size h1))
  obtain ⟨hFL, st₀⟩ := hnow.st.push (tk := s.toks + (xs.zip (us ++ ds)).length) (ρ := xs.zip (vs ++ dvs)) hnone hk₀ hns (fun x v e => by
    obtain ⟨u, h1, h2⟩ := repM_zip (r.append (rd Z)) x v e
    exact ⟨u, by rw [lookup_zip_rev hxs]; exact h1, h2⟩)
  generalize hL' : s.heap.objs.size = L at *
  have hHL : H L = none := (st₀.fb L _ (upd_same ..)).2.2
  have now' : Now p (callCx c fd L f) Z (upd Fo L (xs.zip (vs ++ dvs))) (xs.zip (vs ++ dvs)) H { s with heap := h₀, toks := s.toks + (xs.zip (us ++ ds)).length } := by
    refine ⟨st₀, upd_same .., fun env he => ?_, by show c.n - 1 < 600; have := hnow.n; omega⟩
    rcases List.mem_cons.mp he with rfl | he
    · exact ⟨by show fd.scope.kind ≠ .module; rw [hk]; decide, L, rfl, _, upd_same ..⟩
    · exact hnow.fr.upd env he
  have body' := h L c hnc hlt hHL Z _ _ now'
  have hne : ∀ b ρ', Fo b = some ρ' → b ≠ L := fun b ρ' e q => by rw [q, hFL] at e; cases e
  have hnn := hnow.n
  refine wpAny_mono (wpAny_AR body' rfl (by show 998 - c.n + 1 ≤ 998 - (c.n - 1); omega) rfl (by show 9000 - 10 * c.n + 3 ≤ 9000 - 10 * (c.n - 1); omega)) (fun fl s' ⟨Z', ρ', H', af, z, st, rf, q⟩ => ?_) (fun u s' x => ?_)
  · have st' : StP p Z' Fo H' s' := StX.less st fun b ρ₁ e => ⟨ρ₁, by show upd (upd Fo L _) L ρ' b = _; rw [upd_upd, upd_ne (hne b ρ₁ e)]; exact e, fun _ _ h => h⟩
    cases rf with
    | next => exact ⟨Z', H', .none, z, st', .none, q⟩
    | brk => exact ⟨Z', H', .none, z, st', .none, q⟩
    | cont => exact ⟨Z', H', .none, z, st', .none, q⟩
    | ret rv => exact ⟨Z', H', _, z, st', rv, q⟩
  · obtain ⟨Z', ρ', H', B, e, C, d, md, fs, rfl, z, fl, hmd, hx⟩ := x
    have hmd' : md = none ∨ md = some .none ∨ md = some (rawInt L) := hmd.imp_right fun q => q.imp_right fun ⟨L', a, b⟩ => by cases a; exact b
    unfold leaving
    refine wpAny_bind (fly_note (L := L) rfl rfl now'.fr.upd hmd' fl fun s₁ fl₁ => ?_)
    refine fly_setFlight fl₁ fun s₂ fl₂ => ?_
    refine ⟨Z', ρ, H', B, e, C, d, some .none, fs, rfl, z, ?_, .inr (.inl rfl), rfl, hx⟩
    rw [upd_self hnow.lo]
    have lessF : ∀ b ρ₁, Fo b = some ρ₁ → upd (upd Fo L (xs.zip (vs ++ dvs))) (callCx c fd L f).L ρ' b = some ρ₁ := fun b ρ₁ e => by
      show upd (upd Fo L _) L ρ' b = _; rw [upd_upd, upd_ne (hne b ρ₁ e)]; exact e
    have noF : ∀ b, upd (upd Fo L (xs.zip (vs ++ dvs))) (callCx c fd L f).L ρ' b = none → Fo b = none := fun b e => by
      cases q : Fo b with
      | none => rfl
      | some ρ₁ => rw [lessF b ρ₁ q] at e; cases e
    exact ⟨fl₂.st.less fun b ρ₁ e => ⟨ρ₁, lessF b ρ₁ e, fun _ _ h => h⟩, fl₂.ex, fun env he => fl₂.hid env (.tail _ he), fl₂.at_, ⟨fl₂.new.1, fl₂.new.2.1, fl₂.new.2.2.1, noF _ fl₂.new.2.2.2⟩, ⟨fl₂.new'.1, fl₂.new'.2.1, fl₂.new'.2.2.1, noF _ fl₂.new'.2.2.2⟩⟩
end
end TextL5
section TextL6
open PySem PySem.W PyProof.Rows PySem.Calls
def fset (n : Str) (v : V) : List (Str × V) → List (Str × V)
  | [] => [(n, v)]
  | (k, u) :: r => if k = n then (k, v) :: r else (k, u) :: fset n v r

theorem RepF.nil {Z : GM} : RepF Z [] [] := ⟨rfl, fun i f e h => by simp at h⟩
theorem RepF.inv {Z : GM} {f : Str × V} {fs : List (Str × V)} {es : List DictEntry} (r : RepF Z (f :: fs) es) : ∃ e es', es = e :: es' ∧ (∃ t, e.key = .str f.1 t) ∧ RepV Z f.2 e.val ∧ RepF Z fs es' := by
  cases es with
  | nil => have := r.1; simp at this
  | cons e es => exact ⟨e, es, rfl, (r.2 0 f e rfl rfl).1, (r.2 0 f e rfl rfl).2, by have := r.1; simpa using this, fun i a b x y => r.2 (i + 1) a b (by simpa using x) (by simpa using y)⟩
theorem RepF.cons {Z : GM} {k : Str} {v : V} {e : DictEntry} {fs : List (Str × V)} {es : List DictEntry} {t : Tok} (hk : e.key = .str k t) (hv : RepV Z v e.val) (r : RepF Z fs es) : RepF Z ((k, v) :: fs) (e :: es) := by
  refine ⟨by simp [r.1], fun i a b x y => ?_⟩
  cases i with
  | zero => simp at x y; subst x y; exact ⟨⟨t, hk⟩, hv⟩
  | succ i => simp at x y; exact r.2 i a b x y
theorem isStr_key {n k : Str} {t : Tok} : (Value.str k t).isStr n = decide (k = n) := by
  show (k == n) = _
  by_cases h : k = n <;> simp [h]
theorem RepF.get {Z : GM} {n : Str} : ∀ {fs : List (Str × V)} {es : List DictEntry}, RepF Z fs es → (∀ v, fs.lookup n = some v → ∃ u, getL n es = some (some u) ∧ RepV Z v u) ∧ (fs.lookup n = none → getL n es = some none)
  | [], es, r => by
    have : es = [] := by have := r.1; cases es with | nil => rfl | cons => simp at this
    subst this
    exact ⟨fun v h => (by cases h), fun _ => rfl⟩
  | (k, v) :: fs, es, r => by
    obtain ⟨e, es', rfl, ⟨t, hk⟩, hv, r'⟩ := r.inv
    have ih := RepF.get (n := n) r'
    have hkk : e.key.isStr n = decide (k = n) := by rw [hk]; exact isStr_key
    have hrk : e.refKey = false := by unfold DictEntry.refKey; rw [hk]
    unfold getL at ih ⊢
    rw [List.lookup_cons, List.find?_cons, hkk]
    by_cases h : k = n
    · subst h
      simp only [decide_true, beq_self_eq_true]
      exact ⟨fun v' e' => (by cases e'; exact ⟨_, rfl, hv⟩), fun e' => (by cases e')⟩
    · have hb : (n == k) = false := by simpa using fun q => h q.symm
      simp only [h, decide_false, hb, List.any_cons, hrk, Bool.false_or]
      exact ih
theorem RepF.norefs {Z : GM} : ∀ {fs : List (Str × V)} {es : List DictEntry}, RepF Z fs es → es.any (·.refKey) = false
  | [], es, r => by
    have : es = [] := by have := r.1; cases es with | nil => rfl | cons => simp at this
    subst this; rfl
  | (k, v) :: fs, es, r => by
    obtain ⟨e, es', rfl, ⟨t, hk⟩, hv, r'⟩ := r.inv
    have hrk : e.refKey = false := by unfold DictEntry.refKey; rw [hk]
    rw [List.any_cons, hrk, RepF.norefs r']; rfl
theorem RepF.put {Z : GM} {n : Str} {hsh : Int} {t : Tok} {v : V} {u : Value} (hv : RepV Z v u) : ∀ {fs : List (Str × V)} {es : List DictEntry}, RepF Z fs es → RepF Z (fset n v fs) (putL n hsh (.str n t) u es)
  | [], es, r => by
    have : es = [] := by have := r.1; cases es with | nil => rfl | cons => simp at this
    subst this
    exact RepF.cons rfl hv RepF.nil
  | (k, w) :: fs, es, r => by
    obtain ⟨e, es', rfl, ⟨t', hk⟩, hw, r'⟩ := r.inv
    have hkk : e.key.isStr n = decide (k = n) := by rw [hk]; exact isStr_key
    unfold fset putL
    rw [hkk]
    by_cases h : k = n
    · subst h
      simp only [decide_true, if_true]
      exact RepF.cons hk hv r'
    · simp only [h, decide_false, if_false, Bool.false_eq_true]
      exact RepF.cons hk hw (RepF.put hv r')
theorem putL_len {n : Str} {hsh : Int} {k u : Value} : ∀ es : List DictEntry, (putL n hsh k u es).length ≤ es.length + 1
  | [] => by simp [putL]
  | e :: es => by
    unfold putL
    split
    · simp
    · simp [putL_len es]

section
variable {p : Pm} {c : Cx} {ρ : LM} {H : HM} {Z Z₁ : GM} {Fo : FM} {s s' : Shared} {X : XQ} {Q : V → HM → Prop}

theorem RepV.inst {C a d : Addr} (st : StP p Z Fo H s) {u : Value} (r : RepV Z (.ob C a d) u) {fs : List (Str × V)} (hd : H d = some (.flds fs)) : ∃ es n, u = .ref a ∧ InstAt s.heap a (instObj C d) C (some (dictOf es n)) ∧ RepF Z fs es ∧ s.heap.get? d = some (dictOf es n) := by
  cases r with
  | ob h =>
    obtain ⟨es, n, h1, h2⟩ := st.own d _ hd
    exact ⟨es, n, rfl, ⟨st.z _ _ h, rfl, rfl, h1⟩, h2, h1⟩
theorem RepV.instF {C : Addr} {ns : List Str} {vs : List V} (st : StP p Z Fo H s) {u : Value} (r : RepV Z (.obj C ns vs) u) : ∃ a o es n, u = .ref a ∧ InstAt s.heap a o C (some (dictOf es n)) ∧ RepF Z (ns.zip vs) es := by
  cases r with
  | @obj C a d ns vs es n o h1 h1a h1b h1c h2 h3 h4 h5 h6 =>
    refine ⟨a, o, es, n, rfl, ⟨st.z _ _ h1, h1a, h1b, by rw [h1c]; exact st.z _ _ h2⟩, by simp [h3, h4], fun i f e x y => ?_⟩
    rw [List.getElem?_zip_eq_some] at x
    exact ⟨h5 i _ _ x.1 y, h6 i _ _ x.2 y⟩

theorem RepV.handed {v : V} {u : Value} (r : RepV Z v u) (h : ∀ x, v = .con x → handedIn x = true) : handedIn u = true := by
  cases r <;> first | rfl | exact h _ rfl

structure AttrOK (p : Pm) (C : Addr) (name : Str) : Prop where
  get : plainGet (Mine.hd.heap_39 p.w.params) C name = true
  dict : hasDictIn (Mine.hd.heap_39 p.w.params) C = true
  none : findIn (Mine.hd.heap_39 p.w.params) (.ref C) name = some none

theorem findObj_own' {od : Option Obj} {C : Addr} {name : Str} {v : Value} (A : AttrOK p C name) (hl : lookIn name (od.getD default) = some (some v)) (ho : od.isSome = true) : findObj (Mine.hd.heap_39 p.w.params) C od name = some (.value v) := by
  cases od with
  | none => cases ho
  | some o => exact findObj_own A.dict A.none rfl hl

theorem O_getAttr {C a d : Addr} {name : Str} {fs : List (Str × V)} {v : V} {ex : Bool} (A : AttrOK p C name) (hd : H d = some (.flds fs)) (hl : fs.lookup name = some v) (hv : ∀ x, v = .con x → handedIn x = true) (h : Q v H) :
    O1 p c ρ H (fun u => getAttr u name ex) (.ob C a d) Q X := fun Z Fo s u hn r => by
  obtain ⟨es, n, rfl, I, rf, -⟩ := r.inst hn.st hd
  obtain ⟨u, h1, h2⟩ := (rf.get (n := name)).1 v hl
  exact get_value (p.X.keeps hn.st.base) I (plainGet_of A.get).1 (findObj_own' A (by show lookIn name (dictOf es n) = _; rw [lookIn_dict, h1]) rfl) (h2.handed hv) (.mk' hn.st.toks h2 h)
theorem O_getAttrF {C : Addr} {name : Str} {ns : List Str} {vs : List V} {v : V} {ex : Bool} (A : AttrOK p C name) (hl : (ns.zip vs).lookup name = some v) (hv : ∀ x, v = .con x → handedIn x = true) (h : Q v H) :
    O1 p c ρ H (fun u => getAttr u name ex) (.obj C ns vs) Q X := fun Z Fo s u hn r => by
  obtain ⟨a, o, es, n, rfl, I, rf⟩ := r.instF hn.st
  obtain ⟨u, h1, h2⟩ := (rf.get (n := name)).1 v hl
  exact get_value (p.X.keeps hn.st.base) I (plainGet_of A.get).1 (findObj_own' A (by show lookIn name (dictOf es n) = _; rw [lookIn_dict, h1]) rfl) (h2.handed hv) (.mk' hn.st.toks h2 h)
theorem E_Attr {o : Expr} {a : Str} {pos : Pos} (h : EW p c ρ H (eval o c.env) (fun vo H₁ => O1 p c ρ H₁ (fun u => getAttr u a true) vo Q X) X)
    (he : eval (.Attribute o a pos) c.env = (do
      let o' ← eval o c.env
      standAt pos.atName
      let r ← holding [o'] (getAttr o' a true)
      letTemporaryGo o o' r
      pure r) := by with_unfolding_all rfl) : EW p c ρ H (eval (.Attribute o a pos) c.env) Q X := fun Z Fo s hn =>
  Attribute_any_ (wpAny_mono (h Z Fo s hn) (fun u s₁ ⟨Z₁, H₁, vo, z1, st1, r1, h1⟩ => toE (c := c) z1 (h1 Z₁ Fo s₁ u (hn.step st1) r1) fun _ _ e => e.le z1) fun _ _ e => e) he

structure MethOK (p : Pm) (C : Addr) (name : Str) (f : Addr) : Prop where
  get : plainGet (Mine.hd.heap_39 p.w.params) C name = true
  find : findIn (Mine.hd.heap_39 p.w.params) (.ref C) name = some (some (.ref f))
  fn : isFn (Mine.hd.heap_39 p.w.params) (.ref f) = true
theorem G_inst {C a d f : Addr} {name : Str} {fs : List (Str × V)} {Qm : Value → List V → HM → Prop} (A : MethOK p C name f) (hd : H d = some (.flds fs)) (hl : fs.lookup name = none) (h : Qm (.ref f) [.ob C a d] H) : G1 p c ρ H name (.ob C a d) Qm X := fun Z Fo s u pl hn r => by
  have r0 := r
  obtain ⟨es, n, rfl, I, rf, -⟩ := r.inst hn.st hd
  have h1 := (rf.get (n := name)).2 hl
  exact method_fn (p.X.keeps hn.st.base) I (plainGet_of A.get).1 (plainGet_of A.get).2 A.find (beq_iff_eq.mp A.fn) (by show (lookIn name (dictOf es n)).map _ = _; rw [lookIn_dict, h1]; rfl) ⟨Z, H, [_], Le.refl _, hn.st, RepVs.cons r0 .nil, h⟩
theorem G_instF {C f : Addr} {name : Str} {ns : List Str} {vs : List V} {Qm : Value → List V → HM → Prop} (A : MethOK p C name f) (hl : (ns.zip vs).lookup name = none) (h : Qm (.ref f) [.obj C ns vs] H) : G1 p c ρ H name (.obj C ns vs) Qm X := fun Z Fo s u pl hn r => by
  have r0 := r
  obtain ⟨a, o, es, n, rfl, I, rf⟩ := r.instF hn.st
  have h1 := (rf.get (n := name)).2 hl
  exact method_fn (p.X.keeps hn.st.base) I (plainGet_of A.get).1 (plainGet_of A.get).2 A.find (beq_iff_eq.mp A.fn) (by show (lookIn name (dictOf es n)).map _ = _; rw [lookIn_dict, h1]; rfl) ⟨Z, H, [_], Le.refl _, hn.st, RepVs.cons r0 .nil, h⟩

structure StoreOK (p : Pm) (C : Addr) (name : Str) : Prop where
  set : findIn (Mine.hd.heap_39 p.w.params) (.ref C) "__setattr__" = some (some (.builtin "object.__setattr__"))
  over : plainOver (Mine.hd.heap_39 p.w.params) C = true
  taker : takerIn (Mine.hd.heap_39 p.w.params) C name = some none
  dict : hasDictIn (Mine.hd.heap_39 p.w.params) C = true
theorem O_setAttr {C a d : Addr} {name : Str} {fs : List (Str × V)} {v : V} {Qu : LM → HM → Prop} (A : StoreOK p C name) (hd : H d = some (.flds fs)) (hlen : fs.length ≤ 900) (h : Qu ρ (upd H d (.flds (fset name v fs)))) :
    U2 p c ρ H (fun ov v => setAttr ov name v) (.ob C a d) v Qu X := fun Z Fo s u uv hn r rv => by
  obtain ⟨es, n, rfl, I, rf, D⟩ := r.inst hn.st hd
  refine set_plain (p.X.keeps hn.st.base) I A.set ?_
  have X' : (Mine.hd.heap_39 p.w.params).In s.heap := p.X.keeps hn.st.base
  refine osa_open (s := { s with toks := s.toks + 1 }) X' I A.over A.taker fun b => ?_
  obtain ⟨cd, hc, hd'⟩ := any_some A.dict
  have hx := I.at_
  refine wpAny_bind (wpAny_pure (wpAny_bind (wpAny_bind (wpAny_loadPart hx (wpAny_bind (Looks.here (s := { s with toks := s.toks + 1 }) (looks_clsIn X' hc) ?_))))))
  rw [hd']
  refine wpAny_pure (a := some d) (wpAny_bind (wpAny_pure (wpAny_bind ?_)))
  unfold nsSet
  refine wpAny_bind (wpAny_bind (wpAny_askSetting (wpAny_pure (wpAny_bind (wpAny_mkText (wpAny_bind (wpAny_loadPart D ?_)))))))
  dsimp only
  have nr : (es.toArray.any (·.refKey)) = false := by rw [← Array.any_toList]; exact rf.norefs
  have cc : (!es.toArray.any (·.key.isStr name) && es.toArray.any (·.refKey)) = false := by rw [nr, Bool.and_false]
  rw [aRefKeyMayBeTheName_at, cc]
  refine wpAny_updatePart D ?_
  have hput : ∀ (hsh : Int) (k x : Value), Obj.putName name hsh k x (dictOf es n) = dictOf (putL name hsh k x es) (putN name es n) := fun _ _ _ => putName_dict ..
  have D' := Heap.get?_update_self (f := Obj.putName name (PyData.keyHash p.w.params name) (.str name (s.toks + 1)) uv) D (by rw [hput]; rfl)
  refine wpAny_bind (wpAny_lookBehind D' (by rw [hput]; exact pastItsLine_dict (by rw [List.size_toArray, sizeLine_eq]; have := putL_len (n := name) (hsh := PyData.keyHash p.w.params name) (k := .str name (s.toks + 1)) (u := uv) es; have := rf.1; omega)) ?_)
  refine wpAny_pure ?_
  refine ⟨Z, ρ, _, Le.refl _, ?_, h⟩
  rw [upd_self hn.lo]
  refine hn.st.put hd (Heap.SameBut.update ..).extBut ⟨_, putN name es n, ?_, rf.put (hsh := PyData.keyHash p.w.params name) (t := s.toks + 1) rv⟩
  exact D'.trans (congrArg some (hput ..))
end
end TextL6
section TextL7
open PySem PySem.W PyProof.Rows PySem.Calls
def iterTypes : List String := ["list_iterator", "tuple_iterator", "range_iterator", "bytes_iterator", "dict_keyiterator", "str_ascii_iterator", "str_iterator", "longrange_iterator"]
def erase {α : Type} (f : Addr → Option α) (a : Addr) : Addr → Option α := fun b => if b = a then none else f b
theorem erase_ne {α : Type} {f : Addr → Option α} {a b : Addr} (h : b ≠ a) : erase f a b = f b := by simp [erase, h]
theorem erase_same {α : Type} (f : Addr → Option α) (a : Addr) : erase f a a = none := by simp [erase]
theorem erase_some {α : Type} {f : Addr → Option α} {a b : Addr} {x : α} (h : erase f a b = some x) : b ≠ a ∧ f b = some x := by
  unfold erase at h
  split at h
  · cases h
  · exact ⟨by assumption, h⟩

theorem RepV.erase {Z : GM} {I : Addr} {oI : Obj} {T : String} (hI : Z I = some oI) (hc : oI.cls = .type T) (hT : T ∈ iterTypes) {v : V} {u : Value} (r : RepV Z v u) : RepV (erase Z I) v u := by
  have ne : ∀ {a : Addr} {o : Obj}, Z a = some o → (∀ T', o.cls = .type T' → T' ∉ iterTypes) → Mine.erase Z I a = some o := fun {a o} e k => by
    rw [erase_ne (fun q => by subst q; rw [hI] at e; cases e; exact k T hc hT)]; exact e
  induction r with
  | none => exact .none
  | bool b => exact .bool b
  | int i t => exact .int i t
  | str s t => exact .str s t
  | bytes b t => exact .bytes b t
  | con v => exact .con v
  | tup h1 h2 h3 h4 _ ih => exact .tup (ne h1 fun T' e => by rw [h2] at e; cases e; decide) h2 h3 h4 ih
  | ref a => exact .ref a
  | ob h1 => exact .ob (ne h1 fun T' e => by cases e)
  | obj h1 h1a h1b h1c h2 h3 h4 h5 _ ih => exact .obj (ne h1 fun T' e => by rw [h1a] at e; cases e) h1a h1b h1c (ne h2 fun T' e => by cases e; decide) h3 h4 h5 ih
  | slc h1 _ _ i1 i2 => exact .slc (ne h1 fun T' e => by cases e; decide) i1 i2
  | rng h1 => exact .rng (ne h1 fun T' e => by cases e; decide)

theorem At.erase {prog : Program} {w : World} {Z : GM} {h : Heap} {I a : Addr} {oI : Obj} {T : String} (hI : Z I = some oI) (hc : oI.cls = .type T) (hT : T ∈ iterTypes) {o : AObj} (x : At prog w Z h a o) : At prog w (erase Z I) h a o := by
  have rv : ∀ {v u}, RepV Z v u → RepV (Mine.erase Z I) v u := fun r => r.erase hI hc hT
  have rvs : ∀ {v u}, RepVs Z v u → RepVs (Mine.erase Z I) v u := fun r => ⟨r.1, fun i a b x y => rv (r.2 i a b x y)⟩
  have ne : ∀ {a : Addr} {o : Obj}, Z a = some o → (∀ T', o.cls = .type T' → T' ∉ iterTypes) → Mine.erase Z I a = some o := fun {a o} e k => by
    rw [erase_ne (fun q => by subst q; rw [hI] at e; cases e; exact k T hc hT)]; exact e
  cases o with
  | list vs => obtain ⟨us, n, h1, h2⟩ := x; exact ⟨us, n, h1, rvs h2⟩
  | dint es => obtain ⟨kvs, h1, h2⟩ := x; exact ⟨kvs, h1, h2.1, rvs h2.2⟩
  | dstr es => obtain ⟨kvs, h1, h2⟩ := x; exact ⟨kvs, h1, h2.1, rvs h2.2⟩
  | flds fs => obtain ⟨es, n, h1, h2⟩ := x; exact ⟨es, n, h1, h2.1, fun i f e x y => ⟨(h2.2 i f e x y).1, rv (h2.2 i f e x y).2⟩⟩
  | cell v =>
    obtain ⟨u, h1, h3⟩ := x
    refine ⟨u, h1, ?_⟩
    cases v with
    | none => trivial
    | some v => obtain ⟨u', e, r⟩ := h3; exact ⟨u', e, rv r⟩
  | flist vs => obtain ⟨us, n, h1, h0, h2⟩ := x; exact ⟨us, n, h1, ne h0 (fun T' e => by cases e; decide), rvs h2⟩
  | fdint es => obtain ⟨kvs, ⟨oz, hz1, hz2⟩, h1, h2⟩ := x; exact ⟨kvs, ⟨oz, ne hz1 (fun T' e => by rw [hz2] at e; cases e; decide), hz2⟩, h1, h2.1, rvs h2.2⟩
  | fdstr es => obtain ⟨kvs, ⟨oz, hz1, hz2⟩, h1, h2⟩ := x; exact ⟨kvs, ⟨oz, ne hz1 (fun T' e => by rw [hz2] at e; cases e; decide), hz2⟩, h1, h2.1, rvs h2.2⟩
  | exc C d => exact x

section
variable {p : Pm} {Z Z' : GM} {Fo : FM} {H : HM} {s : Shared}

def Free (p : Pm) (Z : GM) (Fo : FM) (H : HM) (I : Addr) : Prop := Z I = none ∧ Fo I = none ∧ H I = none ∧ p.g.get? I = none

theorem St.but (x : StP p Z Fo H s) {I : Addr} (f : Free p Z Fo H I) {h' : Heap} {tk : Tok} (k : ∀ b o, b ≠ I → s.heap.get? b = some o → h'.get? b = some o) : StP p Z Fo H { s with heap := h', toks := tk } where
  base := fun b o e => k _ _ (fun q => by rw [q, f.2.2.2] at e; cases e) (x.base b o e)
  z := fun b o e => k _ _ (fun q => by rw [q, f.1] at e; cases e) (x.z b o e)
  zb := x.zb
  own := fun b o e => (x.own b o e).keep p.prog p.w (Le.refl _) (fun o' e' => k b o' (fun q => by rw [q, f.2.2.1] at e; cases e) e')
  hb := x.hb
  fr := fun b ρ e => let ⟨m, a, r⟩ := x.fr b ρ e; ⟨m, a.extBut (fun b o n e => k b o n e) (fun q => by rw [q, f.2.1] at e; cases e), r⟩
  fb := x.fb
  stay := fun _ _ e => e
  gens := x.gens
  os := x.os
theorem St.adopt (x : StP p Z Fo H s) {I : Addr} {o : Obj} (f : Free p Z Fo H I) (ho : s.heap.get? I = some o) : Le Z (upd Z I o) ∧ StP p (upd Z I o) Fo H s := by
  have hle : Le Z (upd Z I o) := Le.upd o f.1
  refine ⟨hle, x.base, fun b o' e => ?_, fun b o' e => ?_, fun b o' e => (x.own b o' e).keep p.prog p.w hle (fun o e => e), fun b o' e => ?_, fun b ρ e => ?_, fun b ρ e => ?_, fun _ _ e => e, x.gens, x.os⟩
  · by_cases hb : b = I
    · subst hb; rw [upd_same] at e; cases e; exact ho
    · rw [upd_ne hb] at e; exact x.z b o' e
  · by_cases hb : b = I
    · subst hb; exact f.2.2.2
    · rw [upd_ne hb] at e; exact x.zb b o' e
  · have := x.hb b o' e
    refine ⟨this.1, ?_⟩
    rw [upd_ne (fun q => by rw [q, f.2.2.1] at e; cases e)]; exact this.2
  · obtain ⟨m, h1, h2⟩ := x.fr b ρ e
    exact ⟨m, h1, h2.mono hle⟩
  · have := x.fb b ρ e
    refine ⟨this.1, ?_, this.2.2⟩
    rw [upd_ne (fun q => by rw [q, f.2.1] at e; cases e)]; exact this.2.1
theorem St.erase (x : StP p Z Fo H s) {I : Addr} {oI : Obj} {T : String} (hI : Z I = some oI) (hc : oI.cls = .type T) (hT : T ∈ iterTypes) : Free p (erase Z I) Fo H I ∧ StP p (erase Z I) Fo H s := by
  have hH : H I = none := by
    cases q : H I with
    | none => rfl
    | some o =>
      have h1 := (x.hb I o q).2
      have h2 := x.own I o q
      cases o with
      | flist vs => obtain ⟨us, n, _, h0, _⟩ := h2; rw [hI] at h0; cases h0; cases hc; exact absurd hT (by decide)
      | fdint es => obtain ⟨kvs, ⟨oz, hz1, hz2⟩, _⟩ := h2; rw [hI] at hz1; cases hz1; rw [hz2] at hc; cases hc; exact absurd hT (by decide)
      | fdstr es => obtain ⟨kvs, ⟨oz, hz1, hz2⟩, _⟩ := h2; rw [hI] at hz1; cases hz1; rw [hz2] at hc; cases hc; exact absurd hT (by decide)
      | _ => rw [h1 rfl] at hI; cases hI
  have hF : Fo I = none := by
    cases q : Fo I with
    | none => rfl
    | some ρ => have := (x.fb I ρ q).2.1; rw [hI] at this; cases this
  refine ⟨⟨erase_same .., hF, hH, x.zb I _ hI⟩, x.base, fun b o' e => x.z b o' (erase_some e).2, fun b o' e => x.zb b o' (erase_some e).2, fun b o' e => (x.own b o' e).erase hI hc hT, fun b o' e => ⟨(x.hb b o' e).1, fun m => ?_⟩, fun b ρ e => ?_, fun b ρ e => ?_, fun _ _ e => e, x.gens, x.os⟩
  · have := (x.hb b o' e).2 m
    unfold Mine.erase; split <;> first | rfl | exact this
  · obtain ⟨m, h1, h2⟩ := x.fr b ρ e
    exact ⟨m, h1, fun y v hy => let ⟨u, a, r⟩ := h2 y v hy; ⟨u, a, r.erase hI hc hT⟩⟩
  · have := x.fb b ρ e
    refine ⟨this.1, ?_, this.2.2⟩
    have h2 := this.2.1
    unfold Mine.erase; split <;> first | rfl | exact h2

structure Iter (p : Pm) (Z : GM) (I : Addr) (items : List V) (St : Nat → Heap → Prop) : Prop where
  walks : ∃ fp wr P, (∀ A : Around, A.handled = none → Walks p.prog p.w A I fp wr items.length P St) ∧ (∀ (i : Nat) x, P i x → i < items.length → ∃ v, items[i]? = some v ∧ RepV Z v x) ∧ (∀ b ∈ wr, b = I) ∧ (∀ b ∈ fp, b = I ∨ ∃ o, Z b = some o)
  obj : ∀ i h, St i h → ∃ o T, h.get? I = some o ∧ o.cls = .type T ∧ T ∈ iterTypes
theorem Iter.mono {I : Addr} {items : List V} {S : Nat → Heap → Prop} (x : Iter p Z I items S) (hz : Le Z Z') : Iter p Z' I items S where
  walks := let ⟨fp, wr, P, a, b, c, d⟩ := x.walks; ⟨fp, wr, P, a, fun i x h1 h2 => let ⟨v, e, r⟩ := b i x h1 h2; ⟨v, e, r.mono hz⟩, c, fun b hb => (d b hb).imp_right fun ⟨o, e⟩ => ⟨o, hz _ _ e⟩⟩
  obj := x.obj

theorem letOwned_W {A : Around} {E : Value → Shared → Prop} {target : Expr} {I : Addr} {v : Value} {o : Obj} {T : String} {Q : Unit → Shared → Prop} (ho : s.heap.get? I = some o) (hc : o.cls = .type T) (hT : T ∈ iterTypes) (h : Q () s) : wpAny (M p) A (letOwnedTupleGo target (.ref I) v) Q E s := by
  have key : wpAny (M p) A (do
      let (.ref r, .ref a) := (Value.ref I, v) | return
      let o ← load r
      match o.cls, o.data with
      | .type n, .fields vs =>
        if ["enumerate", "zip", "dict_itemiterator", "dict_reverseitemiterator", "odict_iterator", "itertools.zip_longest", "itertools.pairwise"].contains n && vs[0]? == some (rawInt a) then
          rule "for.unpacks-the-owned-tuple"
          updateField r 0 .none
      | _, _ => pure () : Sem Unit) Q E s := by
    cases v with
    | ref a =>
      refine wpAny_bind (wpAny_load ho ?_)
      obtain ⟨oc, od, odt, osl⟩ := o
      dsimp only at hc ⊢
      subst hc
      cases odt with
      | fields vs =>
        have hn : (["enumerate", "zip", "dict_itemiterator", "dict_reverseitemiterator", "odict_iterator", "itertools.zip_longest", "itertools.pairwise"].contains T) = false := by
          simp only [iterTypes, List.mem_cons, List.not_mem_nil, or_false] at hT
          rcases hT with rfl | rfl | rfl | rfl | rfl | rfl | rfl | rfl <;> decide
        dsimp only
        rw [hn, Bool.false_and]
        exact wpAny_pure h
      | _ => exact wpAny_pure h
    | _ => exact wpAny_pure h
  unfold letOwnedTupleGo
  split
  · exact key
  · exact key
  · exact wpAny_pure h
end

section
variable {p : Pm} {c : Cx} {ρ : LM} {H : HM} {Z Z₁ : GM} {Fo : FM} {s s' : Shared} {X : XQ} {Q : AF → LM → HM → Prop}

def IterW (p : Pm) (c : Cx) (v : V) (H : HM) (R : List V → HM → Prop) : Prop :=
  ∀ ρ Z Fo s u, Now p c Z Fo ρ H s → RepV Z v u → wpAny (M p) c.A (pyIter u) (fun it s' => ∃ Z' I S items H', it = .ref I ∧ Le Z Z' ∧ StP p Z' Fo H' s' ∧ Free p Z' Fo H' I ∧ Iter p Z' I items S ∧ S 0 s'.heap ∧ R items H') (fun _ _ => False) s

theorem S_For {t it : Expr} {b o : List Stmt} {pos : Pos} (hc : c.Top) (h : EW p c ρ H (eval it c.env) (fun v H₁ => IterW p c v H₁ (fun items H₂ => ∃ Inv : Nat → LM → HM → Prop, Inv 0 ρ H₂ ∧
      (∀ i x ρ₁ H₁, items[i]? = some x → Inv i ρ₁ H₁ → U1 p c ρ₁ H₁ (fun u => assign t c.env u) x (fun ρ₂ H₂ => SW p c ρ₂ H₂ (execs b c.env) (fun f ρ₃ H₃ => match f with
        | .next | .cont => Inv (i + 1) ρ₃ H₃
        | .brk => Q .next ρ₃ H₃
        | .ret v => Q (.ret v) ρ₃ H₃) X) X) ∧
      (∀ ρ₁ H₁, Inv items.length ρ₁ H₁ → SW p c ρ₁ H₁ (execs o c.env) Q X))) X)
    (hs : ∀ x, foldedSetIterable it c.env x = pure x := by intro _; rfl) : SW p c ρ H (exec (.For t it b o pos) c.env) Q X := fun Z Fo s hn => by
  have hh : c.A.handled = none := rfl
  refine wpAny_For (wpAny_mono (h Z Fo s hn) (fun u s₁ ⟨Z₁, H₁, v, z1, st1, r1, h1⟩ => wpAny_mono (h1 ρ Z₁ Fo s₁ u (hn.step st1) r1) (fun itv s₂ ⟨Z₂, I, S, items, H₂, hit, z2, st2, fr2, it2, S0, Inv, i0, turn, fin⟩ => ?_) fun _ _ e => e.elim) fun _ _ e => e) hs
  subst hit
  have back : ∀ u s' Z₁ ρ₁, Le Z Z₁ → XPost p c Z₁ (upd Fo c.L ρ₁) X u s' → notedBy (M p) c.A c.env (cameBackBy (M p) c.A c.env (XPost p c Z Fo X)) u s' := fun u s' Z₁ ρ₁ z x => ((x.mono z).upd).noted hc hn.fr fun s'' h1 h2 => h2
  refine codeAny_forLoop_any (fun k s' => ∃ i Z₃ ρ₃ H₃, k = items.length + 1 - i ∧ i ≤ items.length ∧ Le Z Z₃ ∧ StP p Z₃ (upd Fo c.L ρ₃) H₃ s' ∧ Free p Z₃ (upd Fo c.L ρ₃) H₃ I ∧ Iter p Z₃ I items S ∧ S i s'.heap ∧ Inv i ρ₃ H₃) ?_ (items.length + 1)
    ⟨0, Z₂, ρ, H₂, rfl, Nat.zero_le _, z1.trans z2, by rw [upd_self hn.lo]; exact st2, by rw [upd_self hn.lo]; exact fr2, it2, S0, i0⟩
  rintro k s' ⟨i, Z₃, ρ₃, H₃, rfl, hi, z3, st3, fr3, it3, Si, hI⟩
  obtain ⟨fp, wr, P, W, hP, hwr, hfp⟩ := it3.walks
  have W := W c.A hh
  by_cases hlt : i < items.length
  · refine W.item i _ _ _ hlt Si fun x h' tk hPx Si' hk => ?_
    obtain ⟨v, hv, rv⟩ := hP i x hPx hlt
    have st4 := st3.but fr3 (h' := h') (tk := tk) fun b o hb e => hk b o (fun m => hb (hwr b m)) e
    obtain ⟨oI, T, hoI, hcT, hT⟩ := it3.obj _ _ Si'
    obtain ⟨z5, st5⟩ := st4.adopt fr3 hoI
    refine letOwned_W (p := p) hoI hcT hT ?_
    have now5 : Now p c (upd Z₃ I oI) (upd Fo c.L ρ₃) ρ₃ H₃ { s' with heap := h', toks := tk } := hn.stepL st5
    refine wpAny_mono (turn i v ρ₃ H₃ hv hI _ _ _ x now5 (rv.mono z5)) (fun _ s₆ ⟨Z₆, ρ₆, H₆, z6, st6, h6⟩ => ?_) (fun u s₂ e => back u s₂ _ ρ₃ (z3.trans z5) e)
    rw [upd_upd] at st6
    refine wpAny_mono (h6 Z₆ _ s₆ (hn.stepL st6)) (fun f s₇ ⟨Z₇, ρ₇, H₇, af, z7, st7, rf, h7⟩ => ?_) (fun u s₂ e => back u s₂ _ ρ₆ ((z3.trans z5).trans z6) e)
    rw [upd_upd] at st7
    have zz : Le (upd Z₃ I oI) Z₇ := z6.trans z7
    have goOn : Inv (i + 1) ρ₇ H₇ → ∃ m, m < items.length + 1 - i ∧ ∃ i Z₃ ρ₃ H₃, m = items.length + 1 - i ∧ i ≤ items.length ∧ Le Z Z₃ ∧ StP p Z₃ (upd Fo c.L ρ₃) H₃ s₇ ∧ Free p Z₃ (upd Fo c.L ρ₃) H₃ I ∧ Iter p Z₃ I items S ∧ S i s₇.heap ∧ Inv i ρ₃ H₃ := fun hInv => by
      have hZI : Z₇ I = some oI := zz _ _ (upd_same ..)
      obtain ⟨fr8, st8⟩ := st7.erase hZI hcT hT
      have z8 : Le Z₃ (erase Z₇ I) := fun b o e => by
        have hb : b ≠ I := fun q => by rw [q, fr3.1] at e; cases e
        rw [erase_ne hb]
        exact zz _ _ (by rw [upd_ne hb]; exact e)
      refine ⟨items.length + 1 - (i + 1), by omega, i + 1, _, ρ₇, H₇, rfl, hlt, z3.trans z8, st8, fr8, it3.mono z8, ?_, hInv⟩
      refine W.frame _ _ _ Si' fun b hb o e => ?_
      rcases hfp b hb with rfl | ⟨o', ho'⟩
      · rw [hoI] at e; cases e; exact st7.z _ _ hZI
      · have e1 := st7.z _ _ (zz _ _ (z5 _ _ ho'))
        have e2 := st5.z _ _ (z5 _ _ ho')
        rw [show h'.get? b = some o' from e2] at e
        cases e; exact e1
    cases rf with
    | next => exact goOn h7
    | cont => exact goOn h7
    | brk => exact ⟨Z₇, ρ₇, H₇, .next, (z3.trans z5).trans zz, st7, .next, h7⟩
    | ret r => exact ⟨Z₇, ρ₇, H₇, _, (z3.trans z5).trans zz, st7, .ret r, h7⟩
  · have hie : i = items.length := by omega
    subst hie
    refine W.done _ _ _ Si fun h' tk hk => ?_
    have st4 := st3.but fr3 (h' := h') (tk := tk) fun b o hb e => hk b o (fun m => hb (hwr b m)) e
    refine wpAny_mono (fin ρ₃ H₃ hI Z₃ _ _ (hn.stepL st4)) (fun f s₇ ⟨Z₇, ρ₇, H₇, af, z7, st7, rf, h7⟩ => ?_) (fun u s₂ e => back u s₂ _ ρ₃ z3 e)
    rw [upd_upd] at st7
    exact ⟨Z₇, ρ₇, H₇, af, z3.trans z7, st7, rf, h7⟩
end
end TextL7
section TextL8
open PySem PySem.W PyProof.Rows PySem.Calls
section
variable {p : Pm} {c : Cx} {ρ : LM} {H : HM} {Z Z₁ : GM} {Fo : FM} {s s' : Shared} {X : XQ} {R : List V → HM → Prop}

theorem St.freeOf (x : StP p Z Fo H s) {a : Addr} (ha : s.heap.get? a = none) : Free p Z Fo H a := by
  refine ⟨?_, ?_, ?_, ?_⟩
  · cases q : Z a with
    | none => rfl
    | some o => have := x.z a o q; rw [ha] at this; cases this
  · cases q : Fo a with
    | none => rfl
    | some o => obtain ⟨m, ⟨oo, es, ep, h1, _⟩, _⟩ := x.fr a o q; rw [ha] at h1; cases h1
  · cases q : H a with
    | none => rfl
    | some o => obtain ⟨c, hc⟩ := (x.own a o q).some_; rw [ha] at hc; cases hc
  · cases q : p.g.get? a with
    | none => rfl
    | some o => have := x.base a o q; rw [ha] at this; cases this
theorem St.iterNew (x : StP p Z Fo H s) (o : Obj) : StP p Z Fo H { s with heap := s.heap.push o } ∧ Free p Z Fo H s.heap.objs.size :=
  ⟨x.grow (tk := s.toks) fun b o' e => Heap.get?_push_of_some _ e, x.freeOf (Heap.get?_none_of_le (Nat.le_refl _))⟩

theorem I_tup {vs : List V} (h : R vs H) : IterW p c (.tup vs) H R := fun ρ Z Fo s u hn r => by
  cases r with
  | @tup a vs us o n h1 h2 h3 h4 h5 =>
    have ht : s.heap.IsTuple a us.toArray := ⟨o, hn.st.z _ _ h1, h2, n, h3⟩
    refine wpAny_pyIter_tuple ht ?_
    obtain ⟨st', fr⟩ := hn.st.iterNew { cls := .type "tuple_iterator", data := .fields #[.ref a, .int 0 0] }
    have hne : a ≠ s.heap.objs.size := fun q => by rw [q, fr.1] at h1; cases h1
    refine ⟨Z, s.heap.objs.size, _, vs, H, rfl, Le.refl _, st', fr, ⟨⟨_, _, _, fun A hA => by rw [h4, show us.length = us.toArray.size by simp]; exact Walks.tuple hA _ a hne us.toArray, fun i x hx hi => ?_, by simp, fun b hb => ?_⟩, fun i h hS => ?_⟩, ?_, h⟩
    · obtain ⟨v, hv⟩ : ∃ v, vs[i]? = some v := ⟨vs[i], List.getElem?_eq_getElem hi⟩
      exact ⟨v, hv, h5 i v x hv (by simpa using hx)⟩
    · simp only [List.mem_cons, List.not_mem_nil, or_false] at hb
      rcases hb with rfl | rfl
      · exact .inl rfl
      · exact .inr ⟨o, h1⟩
    · obtain ⟨⟨oi, e1, e2, _⟩, _⟩ := hS
      exact ⟨oi, _, e1, e2, by decide⟩
    · exact ⟨⟨_, Heap.get?_push_size _ rfl, rfl, rfl⟩, o, Heap.get?_push_of_some _ (hn.st.z _ _ h1), h2, n, h3⟩

theorem I_flist {a : Addr} {vs : List V} (ha : H a = some (.flist vs)) (h : R vs H) : IterW p c (.ref a) H R := fun ρ Z Fo s u hn r => by
  cases r with
  | ref a =>
    obtain ⟨us, n, h1, h2, h4, h5⟩ := hn.st.own a _ ha
    have ht : s.heap.IsList a us.toArray := ⟨_, h1, rfl, n, rfl⟩
    refine wpAny_pyIter_list ht ?_
    obtain ⟨st', fr⟩ := hn.st.iterNew { cls := .type "list_iterator", data := .fields #[.ref a, .int 0 0] }
    have hne : a ≠ s.heap.objs.size := fun q => by rw [q, fr.1] at h2; cases h2
    refine ⟨Z, s.heap.objs.size, _, vs, H, rfl, Le.refl _, st', fr, ⟨⟨_, _, _, fun A hA => by rw [h4, show us.length = us.toArray.size by simp]; exact Walks.list hA _ a hne us.toArray, fun i x hx hi => ?_, by simp, fun b hb => ?_⟩, fun i h hS => ?_⟩, ?_, h⟩
    · obtain ⟨v, hv⟩ : ∃ v, vs[i]? = some v := ⟨vs[i], List.getElem?_eq_getElem hi⟩
      exact ⟨v, hv, h5 i v x hv (by simpa using hx)⟩
    · simp only [List.mem_cons, List.not_mem_nil, or_false] at hb
      rcases hb with rfl | rfl
      · exact .inl rfl
      · exact .inr ⟨_, h2⟩
    · obtain ⟨⟨oi, e1, e2, _⟩, _⟩ := hS
      exact ⟨oi, _, e1, e2, by decide⟩
    · exact ⟨⟨_, Heap.get?_push_size _ rfl, rfl, rfl⟩, _, Heap.get?_push_of_some _ h1, rfl, n, rfl⟩

theorem St.freezeList (x : StP p Z Fo H s) {a : Addr} {vs : List V} (ha : H a = some (.list vs)) : ∃ Z', Le Z Z' ∧ StP p Z' Fo (upd H a (.flist vs)) s := by
  obtain ⟨us, n, h1, h2⟩ := x.own a _ ha
  obtain ⟨z, st⟩ := x.freeze ha rfl h1 (o' := .flist vs) (fun Z' hz e => ⟨us, n, h1, e, h2.mono hz⟩) rfl
  exact ⟨_, z, st⟩
theorem St.freezeInt (x : StP p Z Fo H s) {a : Addr} {es : List (Int × V)} (ha : H a = some (.dint es)) : ∃ Z', Le Z Z' ∧ StP p Z' Fo (upd H a (.fdint es)) s := by
  obtain ⟨kvs, hd, h2⟩ := x.own a _ ha
  have hd0 := hd
  obtain ⟨o, e1, e2, h1, hc, h3⟩ := hd
  obtain ⟨z, st⟩ := x.freeze ha rfl h1 (o' := .fdint es) (fun Z' hz e => ⟨kvs, ⟨o, e, hc.1⟩, hd0, h2.mono hz⟩) rfl
  exact ⟨_, z, st⟩
theorem St.freezeStr (x : StP p Z Fo H s) {a : Addr} {es : List (Str × V)} (ha : H a = some (.dstr es)) : ∃ Z', Le Z Z' ∧ StP p Z' Fo (upd H a (.fdstr es)) s := by
  obtain ⟨kvs, hd, h2⟩ := x.own a _ ha
  have hd0 := hd
  obtain ⟨o, e1, e2, h1, hc, h3⟩ := hd
  obtain ⟨z, st⟩ := x.freeze ha rfl h1 (o' := .fdstr es) (fun Z' hz e => ⟨kvs, ⟨o, e, hc.1⟩, hd0, h2.mono hz⟩) rfl
  exact ⟨_, z, st⟩

theorem I_list {a : Addr} {vs : List V} (ha : H a = some (.list vs)) (h : R vs (upd H a (.flist vs))) : IterW p c (.ref a) H R := fun ρ Z Fo s u hn r => by
  obtain ⟨Z', z, st⟩ := hn.st.freezeList ha
  refine wpAny_mono (I_flist (c := c) (upd_same ..) h ρ Z' Fo s u ⟨st, hn.lo, hn.fr, hn.n⟩ (r.mono z)) (fun it s' ⟨Z₂, I, S, items, H₂, h1, h2, h3⟩ => ⟨Z₂, I, S, items, H₂, h1, z.trans h2, h3⟩) fun _ _ e => e

theorem I_bytes {b : List UInt8} (h : R (b.map fun x => .int x.toNat) H) : IterW p c (.bytes b) H R := fun ρ Z Fo s u hn r => by
  cases r with
  | bytes b t =>
    refine PySem.W.KBw.pyIter_bytes ?_
    obtain ⟨st', fr⟩ := hn.st.iterNew { cls := .type "bytes_iterator", data := .fields #[.bytes b.toArray t, .int 0 0] }
    refine ⟨Z, s.heap.objs.size, _, _, H, rfl, Le.refl _, st', fr, ⟨⟨_, _, _, fun A hA => by rw [List.length_map, show b.length = b.toArray.size by simp]; exact PySem.W.KBw.walks hA _ b.toArray t, fun i x hx hi => ?_, by simp, fun b hb => .inl (by simpa using hb)⟩, fun i h hS => ?_⟩, ?_, h⟩
    · obtain ⟨cc, uu, h1, rfl⟩ := hx
      simp only [List.getElem?_toArray] at h1
      exact ⟨_, by rw [List.getElem?_map, h1]; rfl, .int _ _⟩
    · obtain ⟨oi, e1, e2, _⟩ := hS
      exact ⟨oi, _, e1, e2, by decide⟩
    · exact ⟨_, Heap.get?_push_size _ rfl, rfl, rfl⟩

theorem I_str {x : Str} (h : R (x.cps.toList.map fun k => .str ⟨#[k]⟩) H) : IterW p c (.str x) H R := fun ρ Z Fo s u hn r => by
  cases r with
  | str x t =>
    have fin : ∀ (T : String), T ∈ iterTypes → (∀ A : Around, A.handled = none → Walks p.prog p.w A s.heap.objs.size [s.heap.objs.size] [s.heap.objs.size] x.cps.size (SignAt x) (fun i h => h.IsStrIter s.heap.objs.size T x t i)) →
        (fun (it : Value) s' => ∃ Z' I S items H', it = .ref I ∧ Le Z Z' ∧ StP p Z' Fo H' s' ∧ Free p Z' Fo H' I ∧ Iter p Z' I items S ∧ S 0 s'.heap ∧ R items H') (.ref s.heap.objs.size) { s with heap := s.heap.push { cls := .type T, data := .fields #[.str x t, .int 0 0] } } := fun T hT W => by
      obtain ⟨st', fr⟩ := hn.st.iterNew { cls := .type T, data := .fields #[.str x t, .int 0 0] }
      refine ⟨Z, s.heap.objs.size, _, _, H, rfl, Le.refl _, st', fr, ⟨⟨_, _, _, fun A hA => by rw [List.length_map, show x.cps.toList.length = x.cps.size by simp]; exact W A hA, fun i y hx hi => ?_, by simp, fun b hb => .inl (by simpa using hb)⟩, fun i h hS => ?_⟩, ?_, h⟩
      · obtain ⟨cc, uu, h1, rfl⟩ := hx
        exact ⟨_, by rw [List.getElem?_map, Array.getElem?_toList, h1]; rfl, .str _ _⟩
      · obtain ⟨oi, e1, e2, _⟩ := hS
        exact ⟨oi, _, e1, e2, hT⟩
      · exact ⟨_, Heap.get?_push_size _ rfl, rfl, rfl⟩
    cases ha : x.cps.all (· < 128)
    · exact wpAny_pyIter_wide ha (fin _ (by decide) fun A hA => Walks.strWide hA _ x t)
    · exact wpAny_pyIter_ascii ha (fin _ (by decide) fun A hA => Walks.strAscii hA _ x t)

theorem I_dictI {a : Addr} {es : List (Int × V)} (ha : H a = some (.fdint es)) (h : R (es.map fun e => .int e.1) H) : IterW p c (.ref a) H R := fun ρ Z Fo s u hn r => by
  cases r with
  | ref a =>
    obtain ⟨kvs, ⟨oz, hz1, hz2⟩, ⟨o, e1, ep, h1, hc, hdat, hk, hp, hnd⟩, h2⟩ := hn.st.own a _ ha
    have hg := (hn.st.hb a _ ha).1
    have hsm : (a == sysModules) = false := by
      simp only [beq_eq_false_iff_ne, ne_eq]
      intro q
      exact p.sysM (q ▸ hg)
    refine wpAny_pyIter_dict (knd := intKind p.prog p.w) hsm ⟨o, e1, h1, hc, hdat, hk, hp, hnd⟩ ?_
    obtain ⟨st', fr⟩ := hn.st.iterNew { cls := .type "dict_keyiterator", data := .fields #[.ref a, .int 0 0, .int kvs.length 0, .int ep 0] }
    have hne : a ≠ s.heap.objs.size := fun q => by rw [q, fr.1] at hz1; cases hz1
    have hl : es.length = kvs.length := by have := congrArg List.length h2.1; simpa using this
    refine ⟨Z, s.heap.objs.size, _, _, H, rfl, Le.refl _, st', fr, ⟨⟨_, _, _, fun A hA => by rw [List.length_map, hl]; exact Walks.dictKeys (knd := intKind p.prog p.w) hA _ a hne kvs ep, fun i x hx hi => ?_, by simp, fun b hb => ?_⟩, fun i h hS => ?_⟩, ?_, h⟩
    · obtain ⟨k, y, h3, h4⟩ := hx
      obtain ⟨t, rfl⟩ := Value.isInt_shape h4
      have : (es.map (·.1))[i]? = some k := by rw [h2.1, List.getElem?_map, h3]; rfl
      rw [List.getElem?_map] at this
      obtain ⟨e, he, rfl⟩ := Option.map_eq_some_iff.mp this
      exact ⟨_, by rw [List.getElem?_map, he]; rfl, .int _ _⟩
    · simp only [List.mem_cons, List.not_mem_nil, or_false] at hb
      rcases hb with rfl | rfl
      · exact .inl rfl
      · exact .inr ⟨_, hz1⟩
    · obtain ⟨⟨oi, e1, e2, _⟩, _⟩ := hS
      exact ⟨oi, _, e1, e2, by decide⟩
    · exact ⟨⟨_, Heap.get?_push_size _ rfl, rfl, rfl⟩, o, e1, Heap.get?_push_of_some _ h1, hc, hdat, hk, hp, hnd⟩
theorem I_dictS {a : Addr} {es : List (Str × V)} (ha : H a = some (.fdstr es)) (h : R (es.map fun e => .str e.1) H) : IterW p c (.ref a) H R := fun ρ Z Fo s u hn r => by
  cases r with
  | ref a =>
    obtain ⟨kvs, ⟨oz, hz1, hz2⟩, ⟨o, e1, ep, h1, hc, hdat, hk, hp, hnd⟩, h2⟩ := hn.st.own a _ ha
    have hg := (hn.st.hb a _ ha).1
    have hsm : (a == sysModules) = false := by
      simp only [beq_eq_false_iff_ne, ne_eq]
      intro q
      exact p.sysM (q ▸ hg)
    refine wpAny_pyIter_dict (knd := strKind p.prog p.w) hsm ⟨o, e1, h1, hc, hdat, hk, hp, hnd⟩ ?_
    obtain ⟨st', fr⟩ := hn.st.iterNew { cls := .type "dict_keyiterator", data := .fields #[.ref a, .int 0 0, .int kvs.length 0, .int ep 0] }
    have hne : a ≠ s.heap.objs.size := fun q => by rw [q, fr.1] at hz1; cases hz1
    have hl : es.length = kvs.length := by have := congrArg List.length h2.1; simpa using this
    refine ⟨Z, s.heap.objs.size, _, _, H, rfl, Le.refl _, st', fr, ⟨⟨_, _, _, fun A hA => by rw [List.length_map, hl]; exact Walks.dictKeys (knd := strKind p.prog p.w) hA _ a hne kvs ep, fun i x hx hi => ?_, by simp, fun b hb => ?_⟩, fun i h hS => ?_⟩, ?_, h⟩
    · obtain ⟨k, y, h3, h4⟩ := hx
      obtain ⟨t, rfl⟩ := Value.isStrOf_shape h4
      have : (es.map (·.1))[i]? = some k := by rw [h2.1, List.getElem?_map, h3]; rfl
      rw [List.getElem?_map] at this
      obtain ⟨e, he, rfl⟩ := Option.map_eq_some_iff.mp this
      exact ⟨_, by rw [List.getElem?_map, he]; rfl, .str _ _⟩
    · simp only [List.mem_cons, List.not_mem_nil, or_false] at hb
      rcases hb with rfl | rfl
      · exact .inl rfl
      · exact .inr ⟨_, hz1⟩
    · obtain ⟨⟨oi, e1, e2, _⟩, _⟩ := hS
      exact ⟨oi, _, e1, e2, by decide⟩
    · exact ⟨⟨_, Heap.get?_push_size _ rfl, rfl, rfl⟩, o, e1, Heap.get?_push_of_some _ h1, hc, hdat, hk, hp, hnd⟩
theorem I_rng {a b c' : Int} {n : Nat} (hn' : Builtin.Range.rangeSize a b c' = (n : Int)) (h : R ((List.range n).map fun (i : Nat) => .int (a + i * c')) H) : IterW p c (.rng a b c') H R := fun ρ Z Fo s u hn r => by
  cases r with
  | @rng r a b cc t u v hr =>
    have hrr : IsRange s.heap r a b c' t u v := hn.st.z _ _ hr
    have fin : ∀ (T : String) (S : Nat → Heap → Prop), T ∈ iterTypes → (∀ A : Around, A.handled = none → Walks p.prog p.w A s.heap.objs.size [s.heap.objs.size] [s.heap.objs.size] n (fun i v => ∃ t, v = .int (a + i * c') t) S) →
        (∀ i h, S i h → ∃ o, h.get? s.heap.objs.size = some o ∧ o.cls = .type T) → ∀ o, S 0 (s.heap.push o) →
        (fun (it : Value) s' => ∃ Z' I S items H', it = .ref I ∧ Le Z Z' ∧ StP p Z' Fo H' s' ∧ Free p Z' Fo H' I ∧ Iter p Z' I items S ∧ S 0 s'.heap ∧ R items H') (.ref s.heap.objs.size) { s with heap := s.heap.push o } := fun T S hT W hS o h0 => by
      obtain ⟨st', fr⟩ := hn.st.iterNew o
      refine ⟨Z, s.heap.objs.size, _, _, H, rfl, Le.refl _, st', fr, ⟨⟨_, _, _, fun A hA => by rw [List.length_map, List.length_range]; exact W A hA, fun i y hx hi => ?_, by simp, fun b hb => .inl (by simpa using hb)⟩, fun i h hS' => ?_⟩, h0, h⟩
      · obtain ⟨tt, rfl⟩ := hx
        rw [List.length_map, List.length_range] at hi
        exact ⟨_, by rw [List.getElem?_map, List.getElem?_range hi]; rfl, .int _ _⟩
      · obtain ⟨oi, e1, e2⟩ := hS i h hS'
        exact ⟨oi, _, e1, e2, hT⟩
    cases hs : Builtin.Range.small a b c' with
    | true => exact wpAny_pyIter_range hrr hs (fin "range_iterator" _ (by decide) (fun A hA => Walks.range hA _ a c' n) (fun i h e => ⟨_, e, rfl⟩) _ (by rw [hn']; show IsRangeIter _ _ _ _ _; simpa using Heap.get?_push_size _ rfl))
    | false => exact wpAny_pyIter_longrange hrr hs (fin "longrange_iterator" _ (by decide) (fun A hA => Walks.longrange hA _ a c' n) (fun i h e => ⟨_, e, rfl⟩) _ (by rw [hn']; show IsLongIter _ _ _ _ _; simpa using Heap.get?_push_size _ rfl))
end
end TextL8
section TextL9
open PySem PySem.W PyProof.Rows PySem.Calls
section
variable {p : Pm} {c : Cx} {ρ : LM} {H : HM} {Z Z₁ : GM} {Fo : FM} {s s' : Shared} {X : XQ} {Q : V → HM → Prop} {Qb : Bool → HM → Prop}

variable {a b : Int}
theorem O_add (h : Q (.int (a + b)) H) : O2 p c ρ H (binaryOp .Add) (.int a) (.int b) Q X := fun Z Fo s u v hn r1 r2 => by
  cases r1; cases r2; exact add_int (.mk' hn.st.toks (.int _ _) h)
theorem O_sub (h : Q (.int (a - b)) H) : O2 p c ρ H (binaryOp .Sub) (.int a) (.int b) Q X := fun Z Fo s u v hn r1 r2 => by
  cases r1; cases r2; exact sub_int (.mk' hn.st.toks (.int _ _) h)
theorem O_mul (hm : IntMulOk a b) (h : Q (.int (a * b)) H) : O2 p c ρ H (binaryOp .Mult) (.int a) (.int b) Q X := fun Z Fo s u v hn r1 r2 => by
  cases r1; cases r2; exact mul_int (.mk' hn.st.toks (.int _ _) h) hm
theorem O_mod (hb : b ≠ 0) (h : Q (.int (a.fmod b)) H) : O2 p c ρ H (binaryOp .Mod) (.int a) (.int b) Q X := fun Z Fo s u v hn r1 r2 => by
  cases r1; cases r2; exact mod_int_or rfl (fun e => absurd e hb) fun _ => .mk' hn.st.toks (.int _ _) h
theorem O_div (hb : b ≠ 0) (h : Q (.int (a.fdiv b)) H) (hr : 110 ≤ c.n) (hfr : ∃ env l, c.fr = env :: l ∧ env.scope.isGenerator = false ∧ env.scope.isCoroutine = false ∧ env.builtins = builtinsNs ∧ env.globals = mainGlobals) : O2 p c ρ H (binaryOp .FloorDiv) (.int a) (.int b) Q X := fun Z Fo s u v hn r1 r2 => by
  cases r1; cases r2
  obtain ⟨env, l, e1, e2, e3, e4, e5⟩ := hfr
  exact floordiv_int_or rfl (fun e => absurd e hb) (fun _ => .mk' hn.st.toks (.int _ _) h) fun _ => .inr (PySem.PylongRoom.of (p.T.nolimit.keeps hn.st.base) (by show 998 - c.n + 100 < 1000; omega) (PySem.SeerAt.of (p.seer.keeps hn.st.base) p.tree (show some c.fr = _ by rw [e1]) e2 e3 e4 e5))
theorem O_neg (h : Q (.int (-a)) H) : O1 p c ρ H (unaryOp .USub) (.int a) Q X := fun Z Fo s u hn r1 => by
  cases r1; exact neg_int (.mk' hn.st.toks (.int _ _) h)
theorem O_eq (h : Q (.bool (a == b)) H) : O2 p c ρ H (compareOp .Eq) (.int a) (.int b) Q X := fun Z Fo s u v hn r1 r2 => by
  cases r1; cases r2; exact eq_int (.mk' hn.st (.bool _) h)
theorem O_ne (h : Q (.bool (a != b)) H) : O2 p c ρ H (compareOp .NotEq) (.int a) (.int b) Q X := fun Z Fo s u v hn r1 r2 => by
  cases r1; cases r2; exact ne_int (.mk' hn.st (.bool _) h)
theorem O_lt (h : Q (.bool (decide (a < b))) H) : O2 p c ρ H (compareOp .Lt) (.int a) (.int b) Q X := fun Z Fo s u v hn r1 r2 => by
  cases r1; cases r2; exact lt_int (.mk' hn.st (.bool _) h)
theorem O_le (h : Q (.bool (decide (a ≤ b))) H) : O2 p c ρ H (compareOp .LtE) (.int a) (.int b) Q X := fun Z Fo s u v hn r1 r2 => by
  cases r1; cases r2; exact le_int (.mk' hn.st (.bool _) h)
theorem O_gt (h : Q (.bool (decide (b < a))) H) : O2 p c ρ H (compareOp .Gt) (.int a) (.int b) Q X := fun Z Fo s u v hn r1 r2 => by
  cases r1; cases r2; exact gt_int (.mk' hn.st (.bool _) h)
theorem O_ge (h : Q (.bool (decide (b ≤ a))) H) : O2 p c ρ H (compareOp .GtE) (.int a) (.int b) Q X := fun Z Fo s u v hn r1 r2 => by
  cases r1; cases r2; exact ge_int (.mk' hn.st (.bool _) h)

theorem T_bool {x : Bool} (h : Qb x H) : B1 p c ρ H truthy (.bool x) Qb X := fun Z Fo s u hn r => by
  cases r; exact wpAny_truthy_bool ⟨Z, H, Le.refl _, hn.st, h⟩
theorem T_none (h : Qb false H) : B1 p c ρ H truthy .none Qb X := fun Z Fo s u hn r => by
  cases r; exact truthy_none ⟨Z, H, Le.refl _, hn.st, h⟩
theorem T_int (h : Qb (a != 0) H) : B1 p c ρ H truthy (.int a) Qb X := fun Z Fo s u hn r => by
  cases r; exact truthy_int ⟨Z, H, Le.refl _, hn.st, h⟩
theorem O_not {v : V} (h : B1 p c ρ H truthy v (fun x H₁ => Q (.bool (!x)) H₁) X) : O1 p c ρ H (unaryOp .Not) v Q X := fun Z Fo s u hn r =>
  not_of (wpAny_mono (h Z Fo s u hn r) (fun x s₁ ⟨Z₁, H₁, z1, st1, h1⟩ => ⟨Z₁, H₁, _, z1, st1, .bool _, h1⟩) fun _ _ e => e)
def V.isNone : V → Bool
  | .none => true
  | _ => false
theorem RepV.isNone {v : V} {u : Value} (r : RepV Z v u) (h : ∀ x, v ≠ .con x) : (u == Value.none) = v.isNone := by
  cases r <;> first | rfl | exact absurd rfl (h _)
theorem O_is_none {v : V} (hv : ∀ x, v ≠ .con x) (h : Q (.bool v.isNone) H) : O2 p c ρ H (compareOp .Is) v .none Q X := fun Z Fo s u w hn r1 r2 => by
  cases r2; exact is_none (.mk' hn.st (.bool _) (by rw [r1.isNone hv]; exact h))
theorem O_isnot_none {v : V} (hv : ∀ x, v ≠ .con x) (h : Q (.bool (!v.isNone)) H) : O2 p c ρ H (compareOp .IsNot) v .none Q X := fun Z Fo s u w hn r1 r2 => by
  cases r2; exact isNot_none (.mk' hn.st (.bool _) (by rw [r1.isNone hv]; exact h))

theorem E_Sub {o i : Expr} {pos : Pos} (h : EW p c ρ H (eval o c.env) (fun vo H₁ => EW p c ρ H₁ (eval i c.env) (fun vi H₂ => O2 p c ρ H₂ (fun x y => subscriptTail o i x y) vo vi Q X) X) X) : EW p c ρ H (eval (.Subscript o i pos) c.env) Q X := fun Z Fo s hn =>
  Subscript_ (wpAny_mono (h Z Fo s hn) (fun u s₁ ⟨Z₁, H₁, vo, z1, st1, r1, h1⟩ => wpAny_mono (h1 Z₁ Fo s₁ (hn.step st1)) (fun v s₂ ⟨Z₂, H₂, vi, z2, st2, r2, h2⟩ =>
    toE (c := c) (z1.trans z2) (h2 Z₂ Fo s₂ u v (hn.step st2) (r1.mono z2) r2) fun _ _ e => e.le (z1.trans z2)) fun _ _ e => e.mono z1) fun _ _ e => e)
theorem O_item_bytes {o i : Expr} {l : List UInt8} {k : Int} (hfit : l.length ≤ 16777216) (h0 : 0 ≤ k) (h1 : k < l.length) (h : Q (.int (l.getD k.toNat 0).toNat) H)
    (hs : ∀ x y, subscripted i false x y = operate [x, y] (getItem x y) := by intro _ _; with_unfolding_all rfl) : O2 p c ρ H (fun x y => subscriptTail o i x y) (.bytes l) (.int k) Q X := fun Z Fo s u v hn r1 r2 => by
  cases r1; cases r2
  exact tail_any (typeIs_bytes s _ _) FB.slot_bytes_getitem.lookup (getItem_bytes (by omega) h0 h1 (.mk' hn.st.toks (.int _ _) h)) (hs _ _)
theorem Os_len_bytes {l : List UInt8} (hfit : l.length ≤ 16777216) (h : Q (.int l.length) H) : Os p c ρ H (fun us => call (.builtin "len") us) [.bytes l] Q X := fun Z Fo s us hn r => by
  obtain ⟨u, us, rfl, r1, r⟩ := r.inv
  rw [r.inv_nil]
  cases r1
  exact len_bytes (by simp; omega) (.mk' (hn.st.toks (tk := s.toks + 1 + 1)) (.int _ _) (by simpa using h))
end
end TextL9
section TextL10
open PySem PySem.W PyProof.Rows PySem.Calls
def loc : List Str → List (Option V) → LM
  | x :: xs, some v :: vs => (x, v) :: loc xs vs
  | _ :: xs, none :: vs => loc xs vs
  | _, _ => []
inductive Lv : List Str → List (Option V) → Str → V → Prop
  | hd {x : Str} {xs : List Str} {v : V} {vs : List (Option V)} : Lv (x :: xs) (some v :: vs) x v
  | tl {x y : Str} {xs : List Str} {v : V} {w : Option V} {vs : List (Option V)} : Lv xs vs x v → Lv (y :: xs) (w :: vs) x v
inductive Sv : List Str → List (Option V) → Str → V → List (Option V) → Prop
  | hd {x : Str} {xs : List Str} {v : V} {w : Option V} {vs : List (Option V)} : Sv (x :: xs) (w :: vs) x v (some v :: vs)
  | tl {x y : Str} {xs : List Str} {v : V} {w : Option V} {vs vs' : List (Option V)} : Sv xs vs x v vs' → Sv (y :: xs) (w :: vs) x v (w :: vs')

theorem Lv.mem {xs : List Str} {vs : List (Option V)} {x : Str} {v : V} (h : Lv xs vs x v) : x ∈ xs := by
  induction h with
  | hd => exact .head _
  | tl _ ih => exact .tail _ ih
theorem Sv.mem {xs : List Str} {vs vs' : List (Option V)} {x : Str} {v : V} (h : Sv xs vs x v vs') : x ∈ xs := by
  induction h with
  | hd => exact .head _
  | tl _ ih => exact .tail _ ih
theorem Lv.lookup {xs : List Str} {vs : List (Option V)} {x : Str} {v : V} (h : Lv xs vs x v) (nd : xs.Nodup) : (loc xs vs).lookup x = some v := by
  induction h with
  | hd => show List.lookup _ ((_, _) :: _) = _; rw [lookup_cons_eq]; simp
  | @tl x y xs v w vs h' ih =>
    rw [List.nodup_cons] at nd
    have := ih nd.2
    cases w with
    | none => exact this
    | some w =>
      show List.lookup _ ((_, _) :: _) = _
      rw [lookup_cons_eq, if_neg (fun (e : x = y) => nd.1 (e ▸ h'.mem))]; exact this
theorem loc_mem {xs : List Str} : ∀ {vs : List (Option V)} {x : Str} {v : V}, (loc xs vs).lookup x = some v → x ∈ xs := by
  induction xs with
  | nil => intro vs x v h; cases vs <;> simp [loc] at h
  | cons y xs ih =>
    intro vs x v h
    match vs, h with
    | [], h => simp [loc] at h
    | none :: vs, h => exact .tail _ (ih h)
    | some w :: vs, h =>
      by_cases e : x = y
      · subst e; exact .head _
      · rw [loc, lookup_cons_eq, if_neg e] at h; exact .tail _ (ih h)
theorem Sv.lookup {xs : List Str} {vs vs' : List (Option V)} {x : Str} {v : V} (h : Sv xs vs x v vs') (nd : xs.Nodup) (y : Str) : (loc xs vs').lookup y = if y = x then some v else (loc xs vs).lookup y := by
  induction h with
  | @hd x xs v w vs =>
    rw [List.nodup_cons] at nd
    show List.lookup _ ((_, _) :: _) = _
    rw [lookup_cons_eq]
    by_cases e : y = x
    · rw [if_pos e, if_pos e]
    · rw [if_neg e, if_neg e]
      cases w with
      | none => rfl
      | some w => show _ = List.lookup _ ((_, _) :: _); rw [lookup_cons_eq, if_neg e]
  | @tl x z xs v w vs vs' h' ih =>
    rw [List.nodup_cons] at nd
    have i := ih nd.2
    cases w with
    | none => exact i
    | some w =>
      show List.lookup _ ((_, _) :: _) = if _ then _ else List.lookup _ ((_, _) :: _)
      rw [lookup_cons_eq, lookup_cons_eq]
      by_cases e : y = z
      · subst e
        rw [if_pos rfl, if_pos rfl, if_neg (fun (q : y = x) => nd.1 (q ▸ h'.mem))]
      · rw [if_neg e, if_neg e]; exact i

structure Fn (p : Pm) (n : Nat) (c : Cx) (xs gs : List Str) : Prop where
  kind : c.env.scope.kind = .function
  glob : c.env.globals = mainGlobals
  boot : c.env.builtins = builtinsNs
  nd : xs.Nodup
  loc : ∀ x ∈ xs, c.env.kindOf x = some .local ∧ (x == ("__debug__" : Str)) = false
  gl : ∀ x ∈ gs, c.env.kindOf x = some .globalImplicit ∧ (x == ("__debug__" : Str)) = false ∧ x ≠ "__name__"
  gen : c.env.scope.isGenerator = false
  cor : c.env.scope.isCoroutine = false
  L : p.g.objs.size ≤ c.L
  n : n ≤ c.n

section
variable {p : Pm} {n : Nat} {c : Cx} {ρ : LM} {H : HM} {Z Z₁ : GM} {Fo : FM} {s s' : Shared} {X : XQ} {Q : V → HM → Prop} {xs gs : List Str} {vals vals' : List (Option V)}

theorem L_ (F : Fn p n c xs gs) {x : Str} {pos : Pos} {v : V} (hv : Lv xs vals x v) (h : Q v H) : EW p c (loc xs vals) H (eval (.Name x pos) c.env) Q X :=
  E_local (hv.lookup F.nd) h F.kind (F.loc x hv.mem).1 (F.loc x hv.mem).2
theorem G_ (F : Fn p n c xs gs) {x : Str} {pos : Pos} {v : Value} {va : V} (hg : x ∈ gs) (e : nsIn (Mine.hd.heap_39 p.w.params) mainGlobals x = some (some v)) (r : ∀ Z, RepV Z va v) (h : Q va H) : EW p c ρ H (eval (.Name x pos) c.env) Q X :=
  E_glob e r h F.kind (F.gl x hg).1 F.glob (F.gl x hg).2.1
theorem B_ (F : Fn p n c xs gs) {x : Str} {pos : Pos} {v : Value} (hg : x ∈ gs) (e : nsIn (Mine.hd.heap_39 p.w.params) mainGlobals x = some none) (hv : bootBuiltins x = some v) (h : Q (.con v) H) : EW p c ρ H (eval (.Name x pos) c.env) Q X :=
  E_boot e hv h (F.gl x hg).2.2 F.kind (F.gl x hg).1 F.glob F.boot (F.gl x hg).2.1
theorem repM_sub {ρ₁ ρ₂ : LM} {m : Str → Option Value} (h : RepM Z ρ₁ m) (k : ∀ x v, ρ₂.lookup x = some v → ρ₁.lookup x = some v) : RepM Z ρ₂ m := fun x v e => h x v (k x v e)
theorem U_ (F : Fn p n c xs gs) {x : Str} {v : V} {Qu : LM → HM → Prop} (hs : Sv xs vals x v vals') (h : Qu (loc xs vals') H) : U1 p c (loc xs vals) H (storeName c.env x) v Qu X := fun Z Fo s u hn r => by
  obtain ⟨m, h1, h2⟩ := hn.st.fr _ _ hn.lo
  refine wpAny_storeName_local (F.loc x hs.mem).1 h1 (fun h' hns hsb => ?_) (by rw [F.kind]; rfl)
  refine ⟨Z, _, H, Le.refl _, hn.st.loc hn.lo hsb.extBut hns (repM_sub (h2.cons r) fun y w e => ?_), h⟩
  rw [hs.lookup F.nd] at e
  rw [lookup_cons_eq]; exact e

theorem SW.forget {ρ₁ : LM} {t : Sem Flow} {Qs : AF → LM → HM → Prop} (k : ∀ x v, ρ₁.lookup x = some v → ρ.lookup x = some v) (h : SW p c ρ₁ H t Qs X) : SW p c ρ H t Qs X := fun Z Fo s hn => by
  have st : StP p Z (upd Fo c.L ρ₁) H s := hn.st.less fun b ρ₂ e => by
    by_cases hb : b = c.L
    · subst hb; rw [upd_same] at e; cases e; exact ⟨ρ, hn.lo, k⟩
    · rw [upd_ne hb] at e; exact ⟨ρ₂, e, fun _ _ h => h⟩
  have hn' : Now p c Z (upd Fo c.L ρ₁) ρ₁ H s := ⟨st, upd_same .., hn.fr.upd, hn.n⟩
  exact wpAny_mono (h Z _ s hn') (fun f s₂ e => e.upd) fun _ _ e => e.upd
end
end TextL10
section TextL11
open PySem PySem.W PyProof.Rows PySem.Calls
section
variable {p : Pm} {n : Nat} {c : Cx} {ρ : LM} {H : HM} {X : XQ} {Q : AF → LM → HM → Prop} {xs gs : List Str} {vals vals' : List (Option V)} {rest : List Stmt} {pos : Pos}

theorem BW.mono {t : Sem Bool} {Q Q' : Bool → HM → Prop} {X' : XQ} (h : BW p c ρ H t Q X) (hq : ∀ v H, Q v H → Q' v H) (hx : ∀ C fs ρ H, X C fs ρ H → X' C fs ρ H) : BW p c ρ H t Q' X' :=
  fun Z Fo s hn => wpAny_mono (h Z Fo s hn) (fun u s ⟨Z', H', h1, h2, h4⟩ => ⟨Z', H', h1, h2, hq _ _ h4⟩) fun _ _ e => e.weaken hx
theorem U1.mono {f : Value → Sem Unit} {a : V} {Q Q' : LM → HM → Prop} {X' : XQ} (h : U1 p c ρ H f a Q X) (hq : ∀ v H, Q v H → Q' v H) (hx : ∀ C fs ρ H, X C fs ρ H → X' C fs ρ H) : U1 p c ρ H f a Q' X' :=
  fun Z Fo s u hn r => wpAny_mono (h Z Fo s u hn r) (fun u s ⟨Z', ρ', H', h1, h2, h4⟩ => ⟨Z', ρ', H', h1, h2, hq _ _ h4⟩) fun _ _ e => e.weaken hx
theorem U1.forget {ρ₁ : LM} {f : Value → Sem Unit} {a : V} {Qu : LM → HM → Prop} (k : ∀ x v, ρ₁.lookup x = some v → ρ.lookup x = some v) (h : U1 p c ρ₁ H f a Qu X) : U1 p c ρ H f a Qu X := fun Z Fo s u hn r => by
  have st : StP p Z (upd Fo c.L ρ₁) H s := hn.st.less fun b ρ₂ e => by
    by_cases hb : b = c.L
    · subst hb; rw [upd_same] at e; cases e; exact ⟨ρ, hn.lo, k⟩
    · rw [upd_ne hb] at e; exact ⟨ρ₂, e, fun _ _ h => h⟩
  have hn' : Now p c Z (upd Fo c.L ρ₁) ρ₁ H s := ⟨st, upd_same .., hn.fr.upd, hn.n⟩
  exact wpAny_mono (h Z _ s u hn' r) (fun f s₂ ⟨Z', ρ', H', h1, h2, h4⟩ => ⟨Z', ρ', H', h1, by rw [upd_upd] at h2; exact h2, h4⟩) fun _ _ e => e.upd
theorem K_Assign {x : Str} {e : Expr} {pos' : Pos} (h : EW p c ρ H (eval e c.env) (fun v H₁ => U1 p c ρ H₁ (storeName c.env x) v (fun ρ₂ H₂ => SW p c ρ₂ H₂ (execs rest c.env) Q X) X) X) (hs : swapsWith e (some (.Name x pos')) pos.line c.env = pure false := by with_unfolding_all rfl) :
    SW p c ρ H (execs (.Assign [.Name x pos'] e pos :: rest) c.env) Q X := S_cons (S_Assign h hs)
theorem K_AssignAttr {o e : Expr} {a : Str} {pos' : Pos} (h : EW p c ρ H (eval e c.env) (fun v H₁ => EW p c ρ H₁ (eval o c.env) (fun w H₂ => U2 p c ρ H₂ (fun ov v => setAttr ov a v) w v (fun ρ₂ H₂ => SW p c ρ₂ H₂ (execs rest c.env) Q X) X) X) X)
    (hs : swapsWith e (some (.Attribute o a pos')) pos.line c.env = pure false := by with_unfolding_all rfl) : SW p c ρ H (execs (.Assign [.Attribute o a pos'] e pos :: rest) c.env) Q X := S_cons (S_AssignAttr h hs)
theorem K_AssignSub {o i e : Expr} {pos' : Pos} (h : EW p c ρ H (eval e c.env) (fun v H₁ => EW p c ρ H₁ (eval o c.env) (fun w H₂ => EW p c ρ H₂ (eval i c.env) (fun k H₃ => U3 p c ρ H₃ setItem w k v (fun ρ₂ H₂ => SW p c ρ₂ H₂ (execs rest c.env) Q X) X) X) X) X)
    (hs : swapsWith e (some (.Subscript o i pos')) pos.line c.env = pure false := by with_unfolding_all rfl) : SW p c ρ H (execs (.Assign [.Subscript o i pos'] e pos :: rest) c.env) Q X := S_cons (S_AssignSub h hs)
theorem K_Return {e : Expr} (h : EW p c ρ H (eval e c.env) (fun v H₁ => Q (.ret v) ρ H₁) X) : SW p c ρ H (execs (.Return (some e) pos :: rest) c.env) Q X := S_cons (S_Return h)
theorem K_Return0 (h : Q (.ret .none) ρ H) : SW p c ρ H (execs (.Return none pos :: rest) c.env) Q X := S_cons (S_Return0 h)
theorem K_Expr (F : Fn p n c xs gs) {e : Expr} (h : EW p c ρ H (eval e c.env) (fun v H₁ => SW p c ρ H₁ (execs rest c.env) Q X) X) (hs : swapsWith e none pos.line c.env = pure false := by with_unfolding_all rfl) : SW p c ρ H (execs (.Expr e pos :: rest) c.env) Q X :=
  S_cons (S_Expr h (by unfold interactive; rw [F.kind]; rfl) hs)
def Nx (p : Pm) (c : Cx) (rest : List Stmt) (Q : AF → LM → HM → Prop) (X : XQ) : AF → LM → HM → Prop := fun f ρ₁ H₁ => match f with
  | .next => SW p c ρ₁ H₁ (execs rest c.env) Q X
  | f => Q f ρ₁ H₁
theorem K_If {t : Expr} {b o : List Stmt} (h : BW p c ρ H (isTrue t c.env (eval t c.env)) (fun x H₁ => if x = true then SW p c ρ H₁ (execs b c.env) (Nx p c rest Q X) X else SW p c ρ H₁ (execs o c.env) (Nx p c rest Q X) X) X) : SW p c ρ H (execs (.If t b o pos :: rest) c.env) Q X := S_cons (S_If h)
theorem K_nil (h : Q .next ρ H) : SW p c ρ H (execs [] c.env) Q X := S_nil h
theorem Nx_next (h : SW p c ρ H (execs rest c.env) Q X) : Nx p c rest Q X .next ρ H := h
theorem Nx_ret {v : V} (h : Q (.ret v) ρ H) : Nx p c rest Q X (.ret v) ρ H := h
theorem Nx_brk (h : Q .brk ρ H) : Nx p c rest Q X .brk ρ H := h
theorem Nx_cont (h : Q .cont ρ H) : Nx p c rest Q X .cont ρ H := h

inductive LeV : List (Option V) → List (Option V) → Prop
  | nil : LeV [] []
  | no {w : Option V} {l l' : List (Option V)} : LeV l l' → LeV (none :: l) (w :: l')
  | eq {w : Option V} {l l' : List (Option V)} : LeV l l' → LeV (w :: l) (w :: l')
theorem LeV.sub {xs : List Str} : ∀ {l l' : List (Option V)}, LeV l l' → xs.Nodup → ∀ x v, (loc xs l).lookup x = some v → (loc xs l').lookup x = some v := by
  induction xs with
  | nil => intro l l' h nd x v e; cases l <;> simp [loc] at e
  | cons y xs ih =>
    intro l l' h nd x v e
    rw [List.nodup_cons] at nd
    cases h with
    | nil => exact e
    | @no w l l' h =>
      have m := loc_mem (show (loc xs l).lookup x = some v from e)
      have := ih h nd.2 x v e
      cases w with
      | none => exact this
      | some w =>
        show List.lookup _ ((_, _) :: _) = _
        rw [lookup_cons_eq, if_neg (fun (q : x = y) => nd.1 (q ▸ m))]; exact this
    | @eq w l l' h =>
      cases w with
      | none => exact ih h nd.2 x v e
      | some w =>
        rw [loc, lookup_cons_eq] at e
        show List.lookup _ ((_, _) :: _) = _
        rw [lookup_cons_eq]
        by_cases q : x = y
        · rw [if_pos q] at e ⊢; exact e
        · rw [if_neg q] at e ⊢; exact ih h nd.2 x v e

def Turn (p : Pm) (c : Cx) (xs : List Str) (I : List (Option V) → HM → Prop) (rest : List Stmt) (Q : AF → LM → HM → Prop) (X : XQ) : AF → LM → HM → Prop := fun f ρ H => match f with
  | .next | .cont => ∃ vals, (∀ x v, (loc xs vals).lookup x = some v → ρ.lookup x = some v) ∧ I vals H
  | .brk => SW p c ρ H (execs rest c.env) Q X
  | .ret v => Q (.ret v) ρ H
theorem Turn.nx {F : Fn p n c xs gs} {I : List (Option V) → HM → Prop} (l : LeV vals vals') (h : I vals H) : Turn p c xs I rest Q X .next (loc xs vals') H := ⟨vals, l.sub F.nd, h⟩
theorem SW.relax {t : Sem Flow} (h : SW p c ρ H t (fun af ρ₂ H₂ => ∃ ρ₃, (∀ x v, List.lookup x ρ₃ = some v → List.lookup x ρ₂ = some v) ∧ Q af ρ₃ H₂) X) : SW p c ρ H t Q X := fun Z Fo s hn =>
  wpAny_mono (h Z Fo s hn) (fun f s ⟨Z', ρ', H', v, h1, h2, h3, ρ₃, h4, h5⟩ => ⟨Z', ρ₃, H', v, h1, h2.less fun b ρ₂ e => by
      by_cases hb : b = c.L
      · subst hb; rw [upd_same] at e; cases e; exact ⟨ρ', upd_same .., h4⟩
      · rw [upd_ne hb] at e; exact ⟨ρ₂, by rw [upd_ne hb]; exact e, fun _ _ h => h⟩, h3, h5⟩) fun _ _ e => e

theorem K_While (F : Fn p n c xs gs) {t : Expr} {b : List Stmt} (I : Nat → List (Option V) → HM → Prop) (k : Nat) (v0 : List (Option V)) (l0 : LeV v0 vals) (i0 : I k v0 H)
    (turn : ∀ k vals H, I k vals H → BW p c (loc xs vals) H (isTrue t c.env (eval t c.env)) (fun x H₁ => if x = true then SW p c (loc xs vals) H₁ (execs b c.env) (Turn p c xs (fun vals' H' => ∃ m, m < k ∧ I m vals' H') rest Q X) X else SW p c (loc xs vals) H₁ (execs rest c.env) Q X) X) (hT : c.Top := by assumption) :
    SW p c (loc xs vals) H (execs (.While t b [] pos :: rest) c.env) Q X := by
  refine SW.forget (l0.sub F.nd) <| S_cons <| S_While hT (fun k ρ H => ∃ vals, ρ = loc xs vals ∧ I k vals H) ?_ k ⟨v0, rfl, i0⟩
  rintro k _ H₁ ⟨vals, rfl, hI⟩
  refine BW.mono (turn k vals H₁ hI) (fun x H₂ h2 => ?_) (fun _ _ _ _ h => h)
  cases x with
  | true =>
    simp only [if_true] at h2 ⊢
    refine SW.relax (SW.mono h2 (fun af ρ₂ H₂ h3 => ?_) (fun _ _ _ _ h => h))
    cases af with
    | next => obtain ⟨vals', sub, m, hm, hI⟩ := h3; exact ⟨_, sub, m, hm, vals', rfl, hI⟩
    | cont => obtain ⟨vals', sub, m, hm, hI⟩ := h3; exact ⟨_, sub, m, hm, vals', rfl, hI⟩
    | brk => exact ⟨_, fun _ _ h => h, h3⟩
    | ret v => exact ⟨_, fun _ _ h => h, h3⟩
  | false =>
    simp only [Bool.false_eq_true, if_false] at h2 ⊢
    exact S_nil h2

theorem K_For (F : Fn p n c xs gs) {t it : Expr} {b : List Stmt} (h : EW p c (loc xs vals) H (eval it c.env) (fun v H₁ => IterW p c v H₁ (fun items H₂ => ∃ (Inv : Nat → List (Option V) → HM → Prop) (v0 : List (Option V)), LeV v0 vals ∧ Inv 0 v0 H₂ ∧
      (∀ i x vals₁ H₁, items[i]? = some x → Inv i vals₁ H₁ → U1 p c (loc xs vals₁) H₁ (fun u => assign t c.env u) x (fun ρ₂ H₂ => SW p c ρ₂ H₂ (execs b c.env) (Turn p c xs (fun vals' H' => Inv (i + 1) vals' H') rest Q X) X) X) ∧
      (∀ vals₁ H₁, Inv items.length vals₁ H₁ → SW p c (loc xs vals₁) H₁ (execs rest c.env) Q X))) X)
    (hs : ∀ x, foldedSetIterable it c.env x = pure x := by intro _; with_unfolding_all rfl) (hT : c.Top := by assumption) : SW p c (loc xs vals) H (execs (.For t it b [] pos :: rest) c.env) Q X := by
  refine S_cons <| S_For hT (EW.mono h (fun v H₁ h1 => ?_) (fun _ _ _ _ h => h)) hs
  refine fun ρ Z Fo s u hn r => wpAny_mono (h1 ρ Z Fo s u hn r) (fun a s' ⟨Z', I, S, items, H', e, z, st, fr, it, s0, Inv, v0, l0, i0, turn, fin⟩ => ?_) (fun _ _ h => h)
  refine ⟨Z', I, S, items, H', e, z, st, fr, it, s0, fun i ρ H => ∃ vals, (∀ x v, (loc xs vals).lookup x = some v → ρ.lookup x = some v) ∧ Inv i vals H, ⟨v0, l0.sub F.nd, i0⟩, ?_, ?_⟩
  · rintro i x ρ₁ H₁ hx ⟨vals₁, sub, hI⟩
    refine U1.forget sub (U1.mono (turn i x vals₁ H₁ hx hI) (fun ρ₂ H₂ h2 => ?_) (fun _ _ _ _ h => h))
    refine SW.mono h2 (fun af ρ₂ H₂ h3 => ?_) (fun _ _ _ _ h => h)
    cases af with
    | next => exact h3
    | cont => exact h3
    | brk => exact h3
    | ret v => exact h3
  · rintro ρ₁ H₁ ⟨vals₁, sub, hI⟩
    exact SW.forget sub (S_nil (fin vals₁ H₁ hI))
end
end TextL11
section TextL12
open PySem PySem.W PyProof.Rows PySem.Calls
def scopeOK (names : List (Str × NameKind)) (params xs gs : List Str) : Bool :=
  decide xs.Nodup && decide params.Nodup && xs.all (fun x => decide (names.lookup x = some .local) && !(x == "__debug__")) && gs.all (fun x => decide (names.lookup x = some .globalImplicit) && !(x == "__debug__") && !(x == "__name__")) && names.all (fun x => decide (x.2 ≠ .cell)) && params.all (fun x => decide (names.lookup x = some .local))

section
variable {p : Pm} {n : Nat} {c : Cx} {ρ : LM} {H : HM} {X : XQ} {Q : V → HM → Prop}

theorem CW_fn {n : Nat} {f : Addr} {o : Obj} {fd : FuncData} {body : List Stmt} {params : List Str} {vs dvs : List V} {Xc : Addr → LM → HM → Prop} (xs gs : List Str) (vals : List (Option V))
    (ho : (Mine.hd.heap_39 p.w.params).lookup f = some o) (hdat : o.data = .func fd) (hcd : codeIn (Mine.hd.heap_39 p.w.params) fd.code fd.qualname = true) (hbody : fd.body = .stmts body)
    (hsc : scopeOK fd.scope.names params xs gs = true)
    (hb : ∀ (s : Shared) us, (Mine.hd.heap_39 p.w.params).In s.heap → us.length = vs.length → ∃ ds, BindsTo s fd ⟨us, []⟩ (params.zip (us ++ ds)) ∧ ∀ Z, RepVs Z dvs ds)
    (hco : fd.scope.isCoroutine = false) (hgen : fd.scope.isGenerator = false) (hk : fd.scope.kind = .function) (hgl : fd.globals = mainGlobals) (hbt : fd.builtins = builtinsNs)
    (hvals : params.zip (vs ++ dvs) = loc xs vals)
    (h : ∀ c, Fn p n c xs gs → c.Top → H c.L = none → SW p c (loc xs vals) H (execs body c.env) (fun af _ H' => Q (retV af) H') (fun C fs _ H' => Xc C fs H')) :
    CW p (n + 1) (.ref f) vs H Q Xc := by
  simp only [scopeOK, Bool.and_eq_true, decide_eq_true_eq, List.all_eq_true, Bool.not_eq_true'] at hsc
  obtain ⟨⟨⟨⟨⟨s1, s2⟩, s3⟩, s4⟩, s5⟩, s6⟩ := hsc
  refine CW_def ho hdat hcd hbody hb s2 s5 s6 hco hgen hk (Nat.succ_pos _) fun L c hn hL hHL => ?_
  rw [hvals]
  refine h (callCx c fd L f) ⟨hk, hgl, hbt, s1, fun x hx => s3 x hx, fun x hx => ⟨(s4 x hx).1.1, (s4 x hx).1.2, fun e => ?_⟩, hgen, hco, hL, ?_⟩ ⟨c.fr, L, rfl, rfl⟩ hHL
  · have := (s4 x hx).2; subst e; cases this
  · show n ≤ c.n - 1; omega

structure Callee (p : Pm) (x : Str) (a : Addr) : Prop where
  val : nsIn (Mine.hd.heap_39 p.w.params) mainGlobals x = some (some (.ref a))
  keep : keepIn (Mine.hd.heap_39 p.w.params) (.ref a) = true
structure Built (p : Pm) (x : Str) (v : Value) : Prop where
  no : nsIn (Mine.hd.heap_39 p.w.params) mainGlobals x = some none
  val : bootBuiltins x = some v
  keep : KeepOK p v

section
variable {xs gs : List Str} {x : Str} {pos np : Pos} {args : List Expr}
theorem C_fn (F : Fn p n c xs gs) {a : Addr} (hg : x ∈ gs) (C : Callee p x a) (h : EWs p c ρ H (spliced (backTo pos (starEach args c.env))) (fun vs H₂ => Os p c ρ H₂ (fun us => call (.ref a) us) vs Q X) X)
    (hp : (backTo pos (starEach args c.env)).any (·.1) = false := by with_unfolding_all rfl) : EW p c ρ H (eval (.Call (.Name x np) args [] pos) c.env) Q X :=
  E_CallName (G_ F hg C.val (fun Z => .con _) ⟨_, rfl, .ref C.keep, h⟩) hp
theorem C_bt (F : Fn p n c xs gs) {v : Value} (hg : x ∈ gs) (C : Built p x v) (h : EWs p c ρ H (spliced (backTo pos (starEach args c.env))) (fun vs H₂ => Os p c ρ H₂ (fun us => call v us) vs Q X) X)
    (hp : (backTo pos (starEach args c.env)).any (·.1) = false := by with_unfolding_all rfl) : EW p c ρ H (eval (.Call (.Name x np) args [] pos) c.env) Q X :=
  E_CallName (B_ F hg C.no C.val ⟨_, rfl, C.keep, h⟩) hp
theorem Fn.call (F : Fn p n c xs gs) {m : Nat} {f : Value} {vs : List V} {Xc : Addr → LM → HM → Prop} {Q' : V → HM → Prop} (h : CW p m f vs H Q' Xc) (hn : m ≤ n) (hq : ∀ v H', Q' v H' → Q v H') (hx : ∀ C fs H', Xc C fs H' → X C fs ρ H') : Os p c ρ H (fun us => call f us) vs Q X :=
  (h.mono (Nat.le_refl _) hq (fun _ _ _ h => h)).use (Nat.le_trans hn F.n) F.L hx
end

theorem if_dec {P : Prop} [Decidable P] {A B : Prop} (h1 : P → A) (h2 : ¬ P → B) : if decide P = true then A else B := by
  by_cases h : P
  · simp only [h, decide_true, if_true]; exact h1 h
  · simp only [h, decide_false, Bool.false_eq_true, if_false]; exact h2 h
theorem if_ndec {P : Prop} [Decidable P] {A B : Prop} (h1 : ¬ P → A) (h2 : P → B) : if (!decide P) = true then A else B := by
  by_cases h : P
  · simp only [h, decide_true, Bool.not_true, Bool.false_eq_true, if_false]; exact h2 h
  · simp only [h, decide_false, Bool.not_false, if_true]; exact h1 h
theorem if_eq {α : Type} [BEq α] [LawfulBEq α] {a b : α} {A B : Prop} (h1 : a = b → A) (h2 : a ≠ b → B) : if (a == b) = true then A else B := by
  by_cases h : a = b
  · rw [if_pos (by simpa using h)]; exact h1 h
  · rw [if_neg (by simpa using h)]; exact h2 h
theorem if_ne {α : Type} [BEq α] [LawfulBEq α] {a b : α} {A B : Prop} (h1 : a ≠ b → A) (h2 : a = b → B) : if (a != b) = true then A else B := by
  by_cases h : a = b
  · rw [if_neg (by simp [h])]; exact h2 h
  · rw [if_pos (by simpa using h)]; exact h1 h
theorem if_b {b : Bool} {A B : Prop} (h1 : b = true → A) (h2 : b = false → B) : if b = true then A else B := by
  cases b
  · exact h2 rfl
  · exact h1 rfl
theorem if_nb {b : Bool} {A B : Prop} (h1 : b = false → A) (h2 : b = true → B) : if (!b) = true then A else B := by
  cases b
  · exact h1 rfl
  · exact h2 rfl
theorem if_t {A B : Prop} (h : A) : if true = true then A else B := h
theorem if_f {A B : Prop} (h : B) : if false = true then A else B := h
end
end TextL12
section TextL13
open PySem PySem.W PyProof.Rows PySem.Calls
section
variable {p : Pm} {c : Cx} {ρ : LM} {H : HM} {Z Z₁ : GM} {Fo : FM} {s s' : Shared} {X : XQ} {Q : V → HM → Prop} {Qb : Bool → HM → Prop}

theorem E_Compare2 {l r₁ r₂ : Expr} {o₁ o₂ : CmpOp} {pos : Pos}
    (h : EW p c ρ H (eval l c.env) (fun a H₁ => EW p c ρ H₁ (eval r₁ c.env) (fun b H₂ => O2 p c ρ H₂ (compareOp o₁) a b (fun v H₃ => B1 p c ρ H₃ truthy v (fun t H₄ =>
      if t = true then EW p c ρ H₄ (eval r₂ c.env) (fun d H₅ => O2 p c ρ H₅ (compareOp o₂) b d Q X) X else Q v H₄) X) X) X) X)
    (hm : lastMarks [o₁, o₂] [r₁, r₂] = false := by with_unfolding_all rfl) : EW p c ρ H (eval (.Compare l [o₁, o₂] [r₁, r₂] pos) c.env) Q X := fun Z Fo s hn => by
  refine Compare_chain (wpAny_mono (h Z Fo s hn) (fun u s₁ ⟨Z₁, H₁, a, z1, st1, ra, h1⟩ => chain_link ?_) fun _ _ e => e) hm
  refine wpAny_mono (h1 Z₁ Fo s₁ (hn.step st1)) (fun v s₂ ⟨Z₂, H₂, b, z2, st2, rb, h2⟩ => ?_) fun _ _ e => e.mono z1
  refine wpAny_mono (h2 Z₂ Fo s₂ u v (hn.step st2) (ra.mono z2) rb) (fun x s₃ ⟨Z₃, H₃, vx, z3, st3, rx, h3⟩ => ?_) fun _ _ e => e.mono (z1.trans z2)
  refine wpAny_mono (h3 Z₃ Fo s₃ x (hn.step st3) rx) (fun t s₄ ⟨Z₄, H₄, z4, st4, h4⟩ => ?_) fun _ _ e => e.mono ((z1.trans z2).trans z3)
  have z14 := ((z1.trans z2).trans z3).trans z4
  cases t with
  | false => simp only [Bool.false_eq_true, if_false] at h4 ⊢; exact ⟨Z₄, H₄, vx, z14, st4, rx.mono z4, h4⟩
  | true =>
    simp only [if_true] at h4 ⊢
    refine chain_last (wpAny_mono (h4 Z₄ Fo s₄ (hn.step st4)) (fun y s₅ ⟨Z₅, H₅, d, z5, st5, rd, h5⟩ => ?_) fun _ _ e => e.mono z14)
    exact toE (c := c) (z14.trans z5) (h5 Z₅ Fo s₅ v y (hn.step st5) (((rb.mono z3).mono z4).mono z5) rd) fun _ _ e => e.le (z14.trans z5)
theorem B_Compare2 {l r₁ r₂ : Expr} {o₁ o₂ : CmpOp} {pos : Pos} {whole : Sem Value}
    (h : EW p c ρ H (eval l c.env) (fun a H₁ => EW p c ρ H₁ (eval r₁ c.env) (fun b H₂ => O2 p c ρ H₂ (compareOp o₁) a b (fun v H₃ => B1 p c ρ H₃ truthy v (fun t H₄ =>
      if t = true then EW p c ρ H₄ (eval r₂ c.env) (fun d H₅ => O2 p c ρ H₅ (compareOp o₂) b d (fun y H₆ => B1 p c ρ H₆ truthy y Qb X) X) X else Qb false H₄) X) X) X) X)
    (hm : lastMarks [o₁, o₂] [r₁, r₂] = false := by with_unfolding_all rfl) : BW p c ρ H (isTrue (.Compare l [o₁, o₂] [r₁, r₂] pos) c.env whole) Qb X := fun Z Fo s hn => by
  refine isTrue_chain (wpAny_mono (h Z Fo s hn) (fun u s₁ ⟨Z₁, H₁, a, z1, st1, ra, h1⟩ => test_link ?_) fun _ _ e => e) hm
  refine wpAny_mono (h1 Z₁ Fo s₁ (hn.step st1)) (fun v s₂ ⟨Z₂, H₂, b, z2, st2, rb, h2⟩ => ?_) fun _ _ e => e.mono z1
  refine wpAny_mono (h2 Z₂ Fo s₂ u v (hn.step st2) (ra.mono z2) rb) (fun x s₃ ⟨Z₃, H₃, vx, z3, st3, rx, h3⟩ => ?_) fun _ _ e => e.mono (z1.trans z2)
  refine wpAny_mono (h3 Z₃ Fo s₃ x (hn.step st3) rx) (fun t s₄ ⟨Z₄, H₄, z4, st4, h4⟩ => ?_) fun _ _ e => e.mono ((z1.trans z2).trans z3)
  have z14 := ((z1.trans z2).trans z3).trans z4
  cases t with
  | false => simp only [Bool.false_eq_true, if_false] at h4 ⊢; exact ⟨Z₄, H₄, z14, st4, h4⟩
  | true =>
    simp only [if_true] at h4 ⊢
    refine test_last (wpAny_mono (h4 Z₄ Fo s₄ (hn.step st4)) (fun y s₅ ⟨Z₅, H₅, d, z5, st5, rd, h5⟩ => ?_) fun _ _ e => e.mono z14)
    refine wpAny_mono (h5 Z₅ Fo s₅ v y (hn.step st5) (((rb.mono z3).mono z4).mono z5) rd) (fun k s₆ ⟨Z₆, H₆, vk, z6, st6, rk, h6⟩ => ?_) fun _ _ e => e.mono (z14.trans z5)
    have z16 := (z14.trans z5).trans z6
    exact toE (c := c) z16 (h6 Z₆ Fo s₆ k (hn.step st6) rk) fun _ _ e => e.le z16

def VB (p : Pm) (c : Cx) (ρ : LM) (op : BoolOp) (pos : Pos) (vs : List Expr) (Q : V → HM → Prop) (X : XQ) (H : HM) : Prop := EW p c ρ H (boolOp pos op (evalEach vs c.env)) Q X
theorem E_Bool {op : BoolOp} {vs : List Expr} {pos : Pos} (h : VB p c ρ op pos vs Q X H) : EW p c ρ H (eval (.BoolOp op vs pos) c.env) Q X := h
theorem VB_one {op : BoolOp} {x : Expr} {pos : Pos} (h : EW p c ρ H (eval x c.env) Q X) : VB p c ρ op pos [x] Q X H := h
theorem VB_And {x y : Expr} {vs : List Expr} {pos : Pos} (h : EW p c ρ H (eval x c.env) (fun v H₁ => B1 p c ρ H₁ truthy v (fun t H₂ => if t = true then VB p c ρ .And pos (y :: vs) Q X H₂ else Q v H₂) X) X) : VB p c ρ .And pos (x :: y :: vs) Q X H := fun Z Fo s hn => by
  show wpAny _ _ (do
    let v ← eval x c.env
    standAt pos
    let t ← holding [v] (truthy v)
    match BoolOp.And, t with
    | .And, false | .Or, true => pure v
    | _, _ => boolOp pos .And (evalEach (y :: vs) c.env)) _ _ _
  refine wpAny_bind (wpAny_mono (h Z Fo s hn) (fun u s₁ ⟨Z₁, H₁, v, z1, st1, r1, h1⟩ => ?_) fun _ _ e => e)
  refine wpAny_bind (wpAny_standAt (wpAny_bind (wpAny_holding (wpAny_mono (h1 Z₁ Fo s₁ u (hn.step st1) r1) (fun t s₂ ⟨Z₂, H₂, z2, st2, h2⟩ => ?_) fun _ _ e => e.mono z1))))
  cases t with
  | false => simp only [Bool.false_eq_true, if_false] at h2 ⊢; exact wpAny_pure ⟨Z₂, H₂, v, z1.trans z2, st2, r1.mono z2, h2⟩
  | true => simp only [if_true] at h2 ⊢; exact toE (c := c) (z1.trans z2) (h2 Z₂ Fo s₂ (hn.step st2)) fun _ _ e => e.le (z1.trans z2)
theorem VB_Or {x y : Expr} {vs : List Expr} {pos : Pos} (h : EW p c ρ H (eval x c.env) (fun v H₁ => B1 p c ρ H₁ truthy v (fun t H₂ => if t = true then Q v H₂ else VB p c ρ .Or pos (y :: vs) Q X H₂) X) X) : VB p c ρ .Or pos (x :: y :: vs) Q X H := fun Z Fo s hn => by
  show wpAny _ _ (do
    let v ← eval x c.env
    standAt pos
    let t ← holding [v] (truthy v)
    match BoolOp.Or, t with
    | .And, false | .Or, true => pure v
    | _, _ => boolOp pos .Or (evalEach (y :: vs) c.env)) _ _ _
  refine wpAny_bind (wpAny_mono (h Z Fo s hn) (fun u s₁ ⟨Z₁, H₁, v, z1, st1, r1, h1⟩ => ?_) fun _ _ e => e)
  refine wpAny_bind (wpAny_standAt (wpAny_bind (wpAny_holding (wpAny_mono (h1 Z₁ Fo s₁ u (hn.step st1) r1) (fun t s₂ ⟨Z₂, H₂, z2, st2, h2⟩ => ?_) fun _ _ e => e.mono z1))))
  cases t with
  | true => simp only [if_true] at h2 ⊢; exact wpAny_pure ⟨Z₂, H₂, v, z1.trans z2, st2, r1.mono z2, h2⟩
  | false => simp only [Bool.false_eq_true, if_false] at h2 ⊢; exact toE (c := c) (z1.trans z2) (h2 Z₂ Fo s₂ (hn.step st2)) fun _ _ e => e.le (z1.trans z2)

theorem slc_new (hn : Now p c Z Fo ρ H s) {lv uv : Value} {l u : V} (rl : RepV Z l lv) (ru : RepV Z u uv) (h : Q (.slc l u) H) :
    EPost p Z Fo Q (.ref s.heap.objs.size) { s with heap := s.heap.push { cls := .type "slice", data := .fields #[lv, uv, .none] } } := by
  have hnone : s.heap.get? s.heap.objs.size = none := Heap.get?_none_of_le (Nat.le_refl _)
  have hget : (s.heap.push { cls := .type "slice", data := .fields #[lv, uv, .none] }).get? s.heap.objs.size = some { cls := .type "slice", data := .fields #[lv, uv, .none] } := Heap.get?_push_size _ rfl
  obtain ⟨hle, st2⟩ := hn.st.frz (tk := s.toks) hnone (fun b o e => Heap.get?_push_of_some _ e) hget
  exact ⟨_, H, _, hle, st2, .slc (upd_same ..) (rl.mono hle) (ru.mono hle), h⟩
theorem E_Slice {l u : Expr} {pos : Pos} (h : EW p c ρ H (eval l c.env) (fun a H₁ => EW p c ρ H₁ (eval u c.env) (fun b H₂ => Q (.slc a b) H₂) X) X) : EW p c ρ H (eval (.Slice (some l) (some u) none pos) c.env) Q X := fun Z Fo s hn =>
  wpAny_Slice (evalPart_some_step (wpAny_mono (h Z Fo s hn) (fun x s₁ ⟨Z₁, H₁, a, z1, st1, r1, h1⟩ => evalPart_some_step (wpAny_mono (h1 Z₁ Fo s₁ (hn.step st1)) (fun y s₂ ⟨Z₂, H₂, b, z2, st2, r2, h2⟩ =>
    evalPart_none_step ((slc_new (hn.step st2) (r1.mono z2) r2 h2).mono (z1.trans z2))) fun _ _ e => e.mono z1)) fun _ _ e => e))
theorem E_SliceL {l : Expr} {pos : Pos} (h : EW p c ρ H (eval l c.env) (fun a H₁ => Q (.slc a .none) H₁) X) : EW p c ρ H (eval (.Slice (some l) none none pos) c.env) Q X := fun Z Fo s hn =>
  wpAny_Slice (evalPart_some_step (wpAny_mono (h Z Fo s hn) (fun x s₁ ⟨Z₁, H₁, a, z1, st1, r1, h1⟩ => evalPart_none_step (evalPart_none_step ((slc_new (hn.step st1) r1 .none h1).mono z1))) fun _ _ e => e))
theorem E_SliceU {u : Expr} {pos : Pos} (h : EW p c ρ H (eval u c.env) (fun a H₁ => Q (.slc .none a) H₁) X) : EW p c ρ H (eval (.Slice none (some u) none pos) c.env) Q X := fun Z Fo s hn =>
  wpAny_Slice (evalPart_none_step (evalPart_some_step (wpAny_mono (h Z Fo s hn) (fun x s₁ ⟨Z₁, H₁, a, z1, st1, r1, h1⟩ => evalPart_none_step ((slc_new (hn.step st1) .none r1 h1).mono z1)) fun _ _ e => e)))

def partOf : V → Option (Option Int)
  | .none => some none
  | .int i => some (some i)
  | _ => none
theorem RepV.part {v : V} {u : Value} {o : Option Int} (r : RepV Z v u) (h : partOf v = some o) : IsPart u o := by
  cases r <;> simp [partOf] at h <;> subst h <;> constructor
def cut {α : Type} (l : List α) (lo hi : Option Int) : List α := (l.drop (lo.elim 0 (clipAt l.length))).take (hi.elim l.length (clipAt l.length) - lo.elim 0 (clipAt l.length))
theorem cut_nat {α : Type} (l : List α) {a b : Nat} (hab : a ≤ b) (hb : b ≤ l.length) : cut l (some a) (some b) = (l.drop a).take (b - a) := by
  have e1 := clipAt_nat l.length a
  have e2 := clipAt_nat l.length b
  simp only [cut, Option.elim, e1, e2, Nat.min_eq_left hb, Nat.min_eq_left (Nat.le_trans hab hb)]
theorem O_slice_bytes {o : Expr} {lo hi : Option Expr} {sp : Pos} {l : List UInt8} {x y : V} {a b : Option Int} (hx : partOf x = some a) (hy : partOf y = some b) (hz : l.length ≤ 16777216) (h : Q (.bytes (cut l a b)) H)
    (hs : ∀ q r, subscripted (.Slice lo hi none sp) false q r = operate [r, q] (getItem q r) := by intro _ _; with_unfolding_all rfl) : O2 p c ρ H (fun x y => subscriptTail o (.Slice lo hi none sp) x y) (.bytes l) (.slc x y) Q X := fun Z Fo s u v hn r1 r2 => by
  cases r1
  cases r2 with
  | slc hZ rl ru =>
    have ho := hn.st.z _ _ hZ
    refine tail_any (typeIs_bytes _ _ _) FB.slot_bytes_getitem.lookup (getItem_meets (typeIs_bytes _ _ _) (by decide) FB.slot_bytes_getitem FB.entry_bytes_getitem (FB.args_bytes_getitem_2 _ _) (KBc.meets_slice2 _ _ _ (rl.part hx) (ru.part hy))
      ⟨⟨_, ho, rfl, rfl⟩, Nat.le_trans (KBc.size_picked_le ..) (by rw [sizeLine_eq]; simpa using hz), fun t' k => ?_⟩) (hs _ _)
    refine .mk' hn.st.toks ?_ h
    rw [KBc.picked_eq]
    simp only [List.size_toArray]
    exact .bytes _ _

theorem O_eqB {a b : List UInt8} (h : Q (.bool (a == b)) H) : O2 p c ρ H (compareOp .Eq) (.bytes a) (.bytes b) Q X := fun Z Fo s u v hn r1 r2 => by
  cases r1; cases r2; exact eq_bytes (.mk' hn.st (.bool _) h)
theorem O_neB {a b : List UInt8} (h : Q (.bool (a != b)) H) : O2 p c ρ H (compareOp .NotEq) (.bytes a) (.bytes b) Q X := fun Z Fo s u v hn r1 r2 => by
  cases r1; cases r2; exact ne_bytes (.mk' hn.st (.bool _) h)
end
end TextL13
section TextL14
open PySem PySem.W PyProof.Rows PySem.Calls
section
variable {p : Pm} {c : Cx} {ρ : LM} {H : HM} {Z Z₁ : GM} {Fo : FM} {s s' : Shared} {X : XQ} {Q : V → HM → Prop} {Qb : Bool → HM → Prop}

def intsOf : List V → Option (List Int)
  | [] => some []
  | .int i :: l => (intsOf l).map (i :: ·)
  | _ => none
def strsOf : List V → Option (List Str)
  | [] => some []
  | .str i :: l => (strsOf l).map (i :: ·)
  | _ => none
def bytsOf : List V → Option (List (List UInt8))
  | [] => some []
  | .bytes i :: l => (bytsOf l).map (i :: ·)
  | _ => none
theorem intsOf_eq : ∀ {vs : List V} {ks : List Int}, intsOf vs = some ks → vs = ks.map .int
  | [], _, h => by cases h; rfl
  | .int i :: l, ks, h => by
    simp only [intsOf, Option.map_eq_some_iff] at h
    obtain ⟨k, h1, rfl⟩ := h
    rw [intsOf_eq h1]; rfl
theorem strsOf_eq : ∀ {vs : List V} {ks : List Str}, strsOf vs = some ks → vs = ks.map .str
  | [], _, h => by cases h; rfl
  | .str i :: l, ks, h => by
    simp only [strsOf, Option.map_eq_some_iff] at h
    obtain ⟨k, h1, rfl⟩ := h
    rw [strsOf_eq h1]; rfl
theorem bytsOf_eq : ∀ {vs : List V} {ks : List (List UInt8)}, bytsOf vs = some ks → vs = ks.map .bytes
  | [], _, h => by cases h; rfl
  | .bytes i :: l, ks, h => by
    simp only [bytsOf, Option.map_eq_some_iff] at h
    obtain ⟨k, h1, rfl⟩ := h
    rw [bytsOf_eq h1]; rfl

theorem RepV.tupAt {vs : List V} {u : Value} (r : RepV Z (.tup vs) u) (st : StP p Z Fo H s) : ∃ a us, u = .ref a ∧ s.heap.IsTuple a us.toArray ∧ RepVs Z vs us := by
  cases r with
  | tup h1 h2 h3 h4 h5 => exact ⟨_, _, rfl, ⟨_, st.z _ _ h1, h2, _, h3⟩, h4, h5⟩

theorem RepVs.mem {vs : List V} {us : List Value} (r : RepVs Z vs us) {u : Value} (h : u ∈ us) : ∃ v ∈ vs, RepV Z v u := by
  obtain ⟨i, hi, rfl⟩ := List.getElem_of_mem h
  have hi' : i < vs.length := by rw [r.1]; exact hi
  exact ⟨vs[i], List.getElem_mem hi', r.2 i _ _ (List.getElem?_eq_getElem hi') (List.getElem?_eq_getElem hi)⟩

theorem RepVs.any {vs : List V} {us : List Value} (r : RepVs Z vs us) {f : Value → Bool} {g : V → Bool} (h : ∀ v u, RepV Z v u → v ∈ vs → f u = g v) : us.any f = vs.any g := by
  revert us
  induction vs with
  | nil => intro us r; rw [r.inv_nil]; rfl
  | cons a vs ih =>
    intro us r
    obtain ⟨u, us, rfl, r1, r2⟩ := r.inv
    rw [List.any_cons, List.any_cons, h a u r1 (.head _), ih (fun v u x m => h v u x (.tail _ m)) r2]


def eqI (x : Int) : Value → Bool
  | .int y _ => y == x
  | _ => false
def eqS (x : Str) : Value → Bool
  | .str y _ => y == x
  | _ => false
def eqBy (x : List UInt8) : Value → Bool
  | .bytes y _ => decide (y.toList = x)
  | _ => false
theorem any_int {ks : List Int} {a : Int} {us : List Value} (r : RepVs Z (ks.map .int) us) : us.any (eqI a) = decide (a ∈ ks) := by
  rw [r.any (g := fun v => match v with | .int y => y == a | _ => false)]
  · rw [List.any_map]
    simp only [Function.comp_def]
    rw [Bool.eq_iff_iff, List.any_eq_true, decide_eq_true_eq]
    exact ⟨fun ⟨x, h, e⟩ => by rw [← show x = a from by simpa using e]; exact h, fun h => ⟨a, h, by simp⟩⟩
  · intro v u rv hv
    obtain ⟨k, _, rfl⟩ := List.mem_map.mp hv
    cases rv; rfl
theorem any_str {ks : List Str} {a : Str} {us : List Value} (r : RepVs Z (ks.map .str) us) : us.any (eqS a) = decide (a ∈ ks) := by
  rw [r.any (g := fun v => match v with | .str y => y == a | _ => false)]
  · rw [List.any_map]
    simp only [Function.comp_def]
    rw [Bool.eq_iff_iff, List.any_eq_true, decide_eq_true_eq]
    exact ⟨fun ⟨x, h, e⟩ => by rw [← show x = a from by simpa using e]; exact h, fun h => ⟨a, h, by simp⟩⟩
  · intro v u rv hv
    obtain ⟨k, _, rfl⟩ := List.mem_map.mp hv
    cases rv; rfl
theorem any_byt {ks : List (List UInt8)} {a : List UInt8} {us : List Value} (r : RepVs Z (ks.map .bytes) us) : us.any (eqBy a) = decide (a ∈ ks) := by
  rw [r.any (g := fun v => match v with | .bytes y => decide (y = a) | _ => false)]
  · rw [List.any_map]
    simp only [Function.comp_def]
    rw [Bool.eq_iff_iff, List.any_eq_true, decide_eq_true_eq]
    exact ⟨fun ⟨x, h, e⟩ => by rw [← show x = a from by simpa using e]; exact h, fun h => ⟨a, h, by simp⟩⟩
  · intro v u rv hv
    obtain ⟨k, _, rfl⟩ := List.mem_map.mp hv
    cases rv; simp [eqBy]

theorem O_inI {a : Int} {vs : List V} {ks : List Int} (hk : intsOf vs = some ks) (h : Q (.bool (decide (a ∈ ks))) H) : O2 p c ρ H (compareOp .In) (.int a) (.tup vs) Q X := fun Z Fo s u v hn r1 r2 => by
  obtain ⟨t, us, rfl, ht, r⟩ := r2.tupAt hn.st
  rw [intsOf_eq hk] at r
  cases r1
  refine SeqAt.in_tupleAt (eqI a) ht (fun y hy => ?_) (.mk' hn.st (.bool _) (by rw [List.any_toArray, any_int r]; exact h))
  obtain ⟨v, hv, rv⟩ := r.mem (by simpa using hy)
  obtain ⟨k, _, rfl⟩ := List.mem_map.mp hv
  cases rv
  exact fun prog w E Q hq => wpAny_eqBool_int hq
theorem O_ninI {a : Int} {vs : List V} {ks : List Int} (hk : intsOf vs = some ks) (h : Q (.bool (!decide (a ∈ ks))) H) : O2 p c ρ H (compareOp .NotIn) (.int a) (.tup vs) Q X := fun Z Fo s u v hn r1 r2 => by
  obtain ⟨t, us, rfl, ht, r⟩ := r2.tupAt hn.st
  rw [intsOf_eq hk] at r
  cases r1
  refine SeqAt.notIn_tupleAt (eqI a) ht (fun y hy => ?_) (.mk' hn.st (.bool _) (by rw [List.any_toArray, any_int r]; exact h))
  obtain ⟨v, hv, rv⟩ := r.mem (by simpa using hy)
  obtain ⟨k, _, rfl⟩ := List.mem_map.mp hv
  cases rv
  exact fun prog w E Q hq => wpAny_eqBool_int hq
theorem O_inS {a : Str} {vs : List V} {ks : List Str} (hk : strsOf vs = some ks) (h : Q (.bool (decide (a ∈ ks))) H) : O2 p c ρ H (compareOp .In) (.str a) (.tup vs) Q X := fun Z Fo s u v hn r1 r2 => by
  obtain ⟨t, us, rfl, ht, r⟩ := r2.tupAt hn.st
  rw [strsOf_eq hk] at r
  cases r1
  refine SeqAt.in_tupleAt (eqS a) ht (fun y hy => ?_) (.mk' hn.st (.bool _) (by rw [List.any_toArray, any_str r]; exact h))
  obtain ⟨v, hv, rv⟩ := r.mem (by simpa using hy)
  obtain ⟨k, _, rfl⟩ := List.mem_map.mp hv
  cases rv
  exact fun prog w E Q hq => PyProof.Rows.eqBool_str hq
theorem O_inB {a : List UInt8} {vs : List V} {ks : List (List UInt8)} (hk : bytsOf vs = some ks) (h : Q (.bool (decide (a ∈ ks))) H) : O2 p c ρ H (compareOp .In) (.bytes a) (.tup vs) Q X := fun Z Fo s u v hn r1 r2 => by
  obtain ⟨t, us, rfl, ht, r⟩ := r2.tupAt hn.st
  rw [bytsOf_eq hk] at r
  cases r1
  refine SeqAt.in_tupleAt (eqBy a) ht (fun y hy => ?_) (.mk' hn.st (.bool _) (by rw [List.any_toArray, any_byt r]; exact h))
  obtain ⟨v, hv, rv⟩ := r.mem (by simpa using hy)
  obtain ⟨k, _, rfl⟩ := List.mem_map.mp hv
  cases rv
  exact fun prog w E Q hq => eqBool_bytes hq
theorem O_ninB {a : List UInt8} {vs : List V} {ks : List (List UInt8)} (hk : bytsOf vs = some ks) (h : Q (.bool (!decide (a ∈ ks))) H) : O2 p c ρ H (compareOp .NotIn) (.bytes a) (.tup vs) Q X := fun Z Fo s u v hn r1 r2 => by
  obtain ⟨t, us, rfl, ht, r⟩ := r2.tupAt hn.st
  rw [bytsOf_eq hk] at r
  cases r1
  refine SeqAt.notIn_tupleAt (eqBy a) ht (fun y hy => ?_) (.mk' hn.st (.bool _) (by rw [List.any_toArray, any_byt r]; exact h))
  obtain ⟨v, hv, rv⟩ := r.mem (by simpa using hy)
  obtain ⟨k, _, rfl⟩ := List.mem_map.mp hv
  cases rv
  exact fun prog w E Q hq => eqBool_bytes hq

theorem O_eqS {a b : Str} (h : Q (.bool (a == b)) H) : O2 p c ρ H (compareOp .Eq) (.str a) (.str b) Q X := fun Z Fo s u v hn r1 r2 => by
  cases r1; cases r2; exact eq_str (.mk' hn.st (.bool _) h)
theorem O_neS {a b : Str} (h : Q (.bool (a != b)) H) : O2 p c ρ H (compareOp .NotEq) (.str a) (.str b) Q X := fun Z Fo s u v hn r1 r2 => by
  cases r1; cases r2; exact ne_str (.mk' hn.st (.bool _) h)

theorem O_item_tup {o i : Expr} {vs : List V} {k : Int} {v : V} (h0 : 0 ≤ k) (hbig : k < 2 ^ 63) (hv : vs[k.toNat]? = some v) (h : Q v H)
    (hs : ∀ x y, subscripted i false x y = operate [x, y] (getItem x y) := by intro _ _; with_unfolding_all rfl) : O2 p c ρ H (fun x y => subscriptTail o i x y) (.tup vs) (.int k) Q X := fun Z Fo s u w hn r1 r2 => by
  obtain ⟨t, us, rfl, ht, r⟩ := r1.tupAt hn.st
  cases r2
  obtain ⟨hlt, _⟩ := List.getElem?_eq_some_iff.mp hv
  have hlt' : k.toNat < us.length := by rw [← r.1]; exact hlt
  have rk := r.2 k.toNat _ _ hv (List.getElem?_eq_getElem hlt')
  refine tail_any (Heap.IsTuple.typeIs ht) slot_tuple_getitem.lookup (PyProof.Rows.getItem_tuple (j := k.toNat) ht (by omega) hbig ?_ (by rw [List.getElem?_toArray]; exact List.getElem?_eq_getElem hlt') (.mk' hn.st rk h)) (hs _ _)
  have h1 : ¬ k < 0 := by omega
  have h2 : k < (us.length : Int) := by omega
  simp [seqIndex?, h0, h2, h1]
end
end TextL14
section TextL15
open PySem PySem.W PyProof.Rows PySem.Calls
open Sem (wp)
section
variable {prog : Program} {w : World} {A : Around} {R : Result → Shared → Prop} {E : Value → Shared → Prop} {h : Heap} {g : Array GenState} {d : Drawn} {t : Nat} {os : OsState}
variable {nm q : Str} {C N : Addr} {bs bm : List Value} {hdct : Bool} {sn : List Str} {sub : List Value} {ab : Bool} {col : Option Bool} {dd : Option Addr} {k0 k1 k2 k3 k5 : Option Value}

structure ExcLine (bm : List Value) : Prop where
  exc : bm.contains (.type "Exception") = true
  base : bm.contains (.type "BaseException") = true
  noAttr : bm.contains (.type "AttributeError") = false
  noName : bm.contains (.type "NameError") = false

theorem x_new (B : ExcLine bm) {rest : List Value} (hC : h.get? C = some (excClassObj nm q C N bs bm hdct sn sub ab col dd k0 k1 k2 k3 k5 "Exception.__new__"))
    (hq : R (.ok (.ret (.ref (h.objs.size + 1)))) ⟨(h.push { cls := .type "tuple", data := .seq rest.toArray }).push
      { cls := .ref C, data := .fields #[.ref h.objs.size, .none, .none, .none, .bool false, .none] }, g, d, t, os⟩) (hrest : rest.length ≤ sizeLine) :
    codeAny (model prog w) A (.builtin "Exception.__new__" ⟨.ref C :: rest, []⟩) R ⟨h, g, d, t, os⟩ := by
  have F := PySem.F.excBase_Exception
  have hends := F.ends
  have hcB : (Value.ref C :: bm).contains (.type "Exception") = true := by rw [List.contains_cons, B.exc, Bool.or_true]
  have hcA : (Value.ref C :: bm).contains (.type "AttributeError") = false := by rw [List.contains_cons, B.noAttr]; rfl
  have hcN : (Value.ref C :: bm).contains (.type "NameError") = false := by rw [List.contains_cons, B.noName]; rfl
  refine codeAny_builtinAt F.entry ?_
  unfold Builtin.«BaseException.__new__»
  refine PySem.wpAt_bind ?_
  show PySem.wpAt _ _ _ (stack >>= _) _ _ _
  refine PySem.wpAt_bind (PySem.wpAt_stack fun p below => PySem.wpAt_of_wpAny ?_)
  wp_walk
  refine PySem.wpAt_of_wpAny ?_
  rw [F.owner]
  repeat (first | with_reducible refine wpAny_madeHere_exc F.canon hC ?_ | with_reducible refine wpAny_loadPart_at hC ?_ | (with_reducible refine wpAny_isSubtype_exc hC ?_; first | rw [hcB] | rw [hcA] | rw [hcN]) | wp_step)
  show R _ _
  rw [Heap.size_push]
  exact hq

theorem x_type_call {K : Frag} {fI : Addr} (B : ExcLine bm) {rest : List Value} {Q : Fin → Shared → Prop} (X : K.In h) (hi : findIn K (.ref C) "__init__" = some (some (.ref fI))) (hf : typeIn K (.ref fI) = some (.type "function"))
    (hC : h.get? C = some (excClassObj nm q C N bs bm hdct sn sub ab col dd k0 k1 k2 k3 k5 "Exception.__new__"))
    (hq : ∀ h' e, Heap.MadeExcOf h h' e (.ref C) rest → wpAny (model prog w) A (call (.ref fI) (.ref e :: rest)) (fun r s' => r = .none ∧ Q (.done (.ret (.ref e))) s') E ⟨h', g, d, t, os⟩) (hrest : rest.length ≤ sizeLine) :
    wpAny (model prog w) A (Builtin.«type.__call__» ⟨.ref C :: rest, []⟩) Q E ⟨h, g, d, t, os⟩ := by
  have F := PySem.F.excBase_Exception
  repeat (first | with_reducible refine wpAny_loadPart_at hC ?_ | with_reducible refine wpAny_madeBy_exc hC ?_ | wp_step)
  refine codeAny_call_builtin_code (Code.quiet_builtin _ F.quiet) (wpAny_check_new_subU F B.exc .base hC ?_)
  refine x_new B hC ?_ hrest
  show wpAny _ _ _ _ _ _
  have kp : ∀ b o, h.get? b = some o → ((h.push { cls := .type "tuple", data := .seq rest.toArray }).push { cls := .ref C, data := .fields #[.ref h.objs.size, .none, .none, .none, .bool false, .none] }).get? b = some o := fun b o e => Heap.get?_push_of_some _ (Heap.get?_push_of_some _ e)
  have hC₁ := kp _ _ hC
  have hget : ((h.push { cls := .type "tuple", data := .seq rest.toArray }).push
      { cls := .ref C, data := .fields #[.ref h.objs.size, .none, .none, .none, .bool false, .none] }).get? (h.objs.size + 1) = some
      { cls := .ref C, data := .fields #[.ref h.objs.size, .none, .none, .none, .bool false, .none] } := by heap_get
  have hcC : (Value.ref C :: bm).contains (.ref C) = true := by simp
  unfold isInstance
  repeat (first | with_reducible refine wpAny_loadPart_at hget ?_ | (with_reducible refine wpAny_isSubtype_exc hC₁ ?_; rw [hcC]) | wp_step)
  show wpAny _ _ (typeLookup (.ref C) _) _ _ _
  refine (looks_findIn (X.keeps kp) hi).here ?_
  refine wpAny_holding (wpAny_bind ((bind_fn (X.keeps kp) _ hf).here ?_))
  refine wpAny_bind (wpAny_mono (hq _ (h.objs.size + 1) ⟨kp, Heap.get?_none_of_le (Nat.le_succ _), h.objs.size, hget, Heap.get?_none_of_le (Nat.le_refl _), ?_⟩) (fun r s' hr => ?_) fun _ _ x => x)
  · exact Heap.get?_push_of_some _ (Heap.get?_push_at rfl rfl)
  · obtain ⟨rfl, hQ⟩ := hr
    wp_walk
    exact hQ

theorem x_call {K : Frag} {fI : Addr} (B : ExcLine bm) {rest : List Value} {Q : Value → Shared → Prop} (X : K.In h) (hi : findIn K (.ref C) "__init__" = some (some (.ref fI))) (hf : typeIn K (.ref fI) = some (.type "function"))
    (hC : h.get? C = some (excClassObj nm q C N bs bm hdct sn sub ab col dd k0 k1 k2 k3 k5 "Exception.__new__"))
    (hq : ∀ h' e, Heap.MadeExcOf h h' e (.ref C) rest → wpAny (model prog w) (A.under (.builtin "type.__call__" ⟨.ref C :: rest, []⟩)) (call (.ref fI) (.ref e :: rest)) (fun r s' => r = .none ∧ Q (.ref e) s') E ⟨h', g, d, t, os⟩) (hrest : rest.length ≤ sizeLine) :
    wpAny (model prog w) A (call (.ref C) rest) Q E ⟨h, g, d, t, os⟩ := by
  have f1 := tc_lookup
  have f2 := tc_bind (.ref C)
  have hT : (⟨h, g, d, t, os⟩ : Shared).TypeIs (.ref C) "type" := ⟨_, hC, rfl⟩
  refine wpAny_call (codeAny_of_tree ?_)
  show wpAny _ _ (callAny (.ref C) _) _ _ _
  repeat (any_goals (first | assumption | with_reducible refine wpAny_loadPart_at hC ?_ | wp_step))
  refine ⟨rfl, ?_⟩
  refine codeAny_call_builtin_at (Code.quiet_builtin _ (by decide +kernel)) entry_typeCall (wpAny_check_type_call_sub hC (x_type_call B X hi hf hC (fun h' e hm => ?_) hrest))
  exact hq h' e hm
end
end TextL15
section TextL16
open PySem PySem.W PyProof.Rows PySem.Calls
def free1 (h : Heap) (a : Addr) : Heap := h.update a (fun o => { o with data := .freed })
theorem free1_get (h : Heap) (a b : Addr) : (free1 h a).get? b = if b = a then none else h.get? b := by
  by_cases e : b = a
  · subst e
    rw [if_pos rfl]
    unfold free1 Heap.update Heap.get?
    simp only [Array.getElem?_modify, if_true]
    cases h.objs[b]? <;> rfl
  · rw [if_neg e]; exact Heap.get?_update_other _ _ (fun q => e q.symm)
def without (h : Heap) : List Addr → Heap
  | [] => h
  | a :: l => free1 (without h l) a
theorem without_get (h : Heap) : ∀ (l : List Addr) (b : Addr), (without h l).get? b = if b ∈ l then none else h.get? b
  | [], b => by simp [without]
  | a :: l, b => by
    rw [without, free1_get, without_get h l b]
    by_cases e : b = a
    · subst e; simp
    · simp [e]

section
variable {M : Model} {A : Around} {E : Value → Shared → Prop} {env : Env}
variable {nm q : Str} {C N : Addr} {bs bm : List Value} {hdct : Bool} {sn : List Str} {sub : List Value} {ab : Bool} {col : Option Bool} {dd : Option Addr} {k0 k1 k2 k3 k5 : Option Value}

theorem x_raiseStmt {s : Shared} {x : Sem Value} {Q : Flow → Shared → Prop} (hh : A.handled = none) (B : ExcLine bm)
    (h : wpAny M A x (fun v s₁ => ∃ e t da, v = .ref e ∧ s₁.heap.get? C = some (excClassObj nm q C N bs bm hdct sn sub ab col dd k0 k1 k2 k3 k5 "Exception.__new__") ∧
      s₁.heap.get? e = some { cls := .ref C, dict := da, data := .fields #[.ref t, .none, .none, .none, .bool false, .none] } ∧ E (.ref e) s₁) E s) :
    wpAny M A (raiseStmt env (some x) none) Q E s := by
  have hcB : (Value.ref C :: bm).contains (.type "BaseException") = true := by rw [List.contains_cons, B.base, Bool.or_true]
  unfold raiseStmt
  refine wpAny_bind (wpAny_mono h (fun v s₁ h₁ => ?_) fun _ _ x => x)
  obtain ⟨e, t, da, rfl, hC, he, hE⟩ := h₁
  obtain ⟨hp, g, d, tk, os⟩ := s₁
  repeat (first | with_reducible refine wpAny_loadPart_at he ?_ | with_reducible refine wpAny_loadPart_at hC ?_ | (with_reducible refine wpAny_isSubtype_exc hC ?_; rw [hcB]) | wp_step)
  exact wpAny_raiseNew_none hh hE
end

def excMro : List Value → Bool
  | [.type a, .type b, .type o] => a == "Exception" && b == "BaseException" && o == "object"
  | .ref _ :: r => excMro r
  | _ => false
structure XCls (p : Pm) (C : Addr) : Prop where
  ok : ∃ nm q N bs bm hdct sn sub ab col dd k0 k1 k2 k3 k5, (Mine.hd.heap_39 p.w.params).lookup C = some (excClassObj nm q C N bs bm hdct sn sub ab col dd k0 k1 k2 k3 k5 "Exception.__new__") ∧ ExcLine bm
  init : findIn (Mine.hd.heap_39 p.w.params) (.ref C) "__init__" = some (some (.ref 166))
  keep : keepIn (Mine.hd.heap_39 p.w.params) (.ref C) = true
  dict : hasDictIn (Mine.hd.heap_39 p.w.params) C = true
  set : findIn (Mine.hd.heap_39 p.w.params) (.ref C) "__setattr__" = some (some (.builtin "object.__setattr__"))
  tw : takerIn (Mine.hd.heap_39 p.w.params) C "what" = some none
  mro : (clsIn (Mine.hd.heap_39 p.w.params) C).any (fun cd => excMro cd.mro) = true
  get : findIn (Mine.hd.heap_39 p.w.params) (.ref C) "__getattribute__" = some (some (.builtin "BaseException.__getattribute__"))
  ta : takerIn (Mine.hd.heap_39 p.w.params) C "at" = some none

section
variable {p : Pm} {n : Nat} {c : Cx} {ρ : LM} {H H2 : HM} {X : XQ} {Q : AF → LM → HM → Prop} {Z : GM} {Fo : FM} {s : Shared}

theorem S_Raise {ex : Expr} {pos : Pos} (C : Addr) (XC : XCls p C) (h : EW p c ρ H (eval ex c.env) (fun v H₁ => ∃ e d fs H2, v = .con (.ref e) ∧ H₁ = upd (upd H2 d (.flds fs)) e (.exc C (some d)) ∧ d ≠ e ∧ H2 e = none ∧ H2 d = none ∧ X C fs ρ H2) X) :
    SW p c ρ H (exec (.Raise (some ex) none pos) c.env) Q X := fun Z Fo s hn => by
  rw [arm_exec_Raise]
  refine wpAny_bind (wpAny_standAt ?_)
  obtain ⟨nm, q, N, bs, bm, hdct, sn, sub, ab, col, dd, k0, k1, k2, k3, k5, hK, B⟩ := XC.ok
  refine x_raiseStmt (C := C) (nm := nm) (q := q) (N := N) (bs := bs) (hdct := hdct) (sn := sn) (sub := sub) (ab := ab) (col := col) (dd := dd) (k0 := k0) (k1 := k1) (k2 := k2) (k3 := k3) (k5 := k5) rfl B (wpAny_bind (wpAny_mono (h Z Fo s hn) (fun u s₁ ⟨Z₁, H₁, v, z1, st1, r1, e, d, fs, H2, hv, hH, hde, he, hd, hX⟩ => wpAny_bind (wpAny_standAt (wpAny_pure ?_))) fun _ _ e => e))
  subst hv hH
  cases r1
  have oe : (upd (upd H2 d (.flds fs)) e (.exc C (some d))) e = some (.exc C (some d)) := upd_same ..
  have od : (upd (upd H2 d (.flds fs)) e (.exc C (some d))) d = some (.flds fs) := by rw [upd_ne hde]; exact upd_same ..
  obtain ⟨t, hte⟩ := st1.own e _ oe
  refine ⟨e, t, some d, rfl, p.X.keeps st1.base _ _ hK, hte, ?_⟩
  have hfr := (hn.step st1).fr
  let L := e :: c.fr.filterMap (·.frame)
  have notL : ∀ b, (∃ env ∈ c.fr, env.frame = some b) → ∃ ρ', Fo b = some ρ' := fun b ⟨env, h1, h2⟩ => by
    obtain ⟨_, L', h3, ρ', h4⟩ := hfr env h1
    rw [h2] at h3; cases h3; exact ⟨ρ', h4⟩
  have inL : ∀ b, b ∈ L ↔ b = e ∨ ∃ env ∈ c.fr, env.frame = some b := fun b => by simp [L]
  have keep : ∀ b o, b ≠ e → (∀ ρ', Fo b ≠ some ρ') → s₁.heap.get? b = some o → (without s₁.heap L).get? b = some o := fun b o h1 h2 h3 => by
    rw [without_get, if_neg]; exact h3
    rw [inL]; rintro (q | q)
    · exact h1 q
    · obtain ⟨ρ', q⟩ := notL b q; exact h2 _ q
  have ge : p.g.get? e = none := (st1.hb e _ oe).1
  have ze : Z₁ e = none := (st1.hb e _ oe).2 rfl
  have gd : p.g.get? d = none := (st1.hb d _ od).1
  have zd : Z₁ d = none := (st1.hb d _ od).2 rfl
  have fe : Fo e = none := by cases q : Fo e with | none => rfl | some ρ' => have := (st1.fb e ρ' q).2.2; rw [oe] at this; cases this
  have fd : Fo d = none := by cases q : Fo d with | none => rfl | some ρ' => have := (st1.fb d ρ' q).2.2; rw [od] at this; cases this
  have sub2 : ∀ b o, H2 b = some o → (upd (upd H2 d (.flds fs)) e (.exc C (some d))) b = some o := fun b o q => by
    rw [upd_ne (fun w => by subst w; rw [he] at q; cases q), upd_ne (fun w => by subst w; rw [hd] at q; cases q)]; exact q
  have lo1 : Fo c.L = some ρ := hn.lo
  refine ⟨Z₁, ρ, H2, without s₁.heap L, e, C, d, none, fs, rfl, z1, ⟨⟨?_, ?_, st1.zb, ?_, ?_, ?_, ?_, ?_, st1.gens, st1.os⟩, ?_, ?_, ?_, ⟨hd, zd, gd, by rw [upd_self lo1]; exact fd⟩, ⟨he, ze, ge, by rw [upd_self lo1]; exact fe⟩⟩, .inl rfl, hX⟩
  · exact fun b o q => keep b o (fun w => by rw [w, ge] at q; cases q) (fun ρ' w => by rw [(st1.fb b ρ' w).1] at q; cases q) (st1.base b o q)
  · exact fun b o q => keep b o (fun w => by rw [w, ze] at q; cases q) (fun ρ' w => by rw [(st1.fb b ρ' w).2.1] at q; cases q) (st1.z b o q)
  · exact fun b o q => (st1.own b o (sub2 b o q)).keep _ _ (Le.refl _) fun o' w => keep b o' (fun w => by rw [w, he] at q; cases q) (fun ρ' w => by have := (st1.fb b ρ' w).2.2; rw [sub2 b o q] at this; cases this) w
  · exact fun b o q => st1.hb b o (sub2 b o q)
  · rw [upd_self lo1]; exact st1.fr
  · rw [upd_self lo1]
    intro b ρ' q
    have := st1.fb b ρ' q
    refine ⟨this.1, this.2.1, ?_⟩
    cases w : H2 b with
    | none => rfl
    | some o => rw [sub2 b o w] at this; cases this.2.2
  · intro b o q
    rw [without_get] at q
    by_cases w : b ∈ L
    · rw [if_pos w] at q; cases q
    · rw [if_neg w] at q; exact q
  · refine ⟨_, _, hte, ?_, rfl⟩
    rw [without_get, if_pos ((inL e).2 (.inl rfl))]
  · intro env h1 L' h2
    rw [without_get, if_pos ((inL L').2 (.inr ⟨env, h1, h2⟩))]
  · exact (st1.own d _ od).keep _ _ (Le.refl _) fun o' w => keep d o' hde (fun ρ' w => by rw [fd] at w; cases w) w

theorem weight_type_call_ref (C : Addr) (us : List Value) : (Code.builtin "type.__call__" ⟨.ref C :: us, []⟩).weight = 1 := by kernel_rfl
theorem units_type_call_ref (C : Addr) (us : List Value) : (Code.builtin "type.__call__" ⟨.ref C :: us, []⟩).cUnits = 1 := by kernel_rfl
theorem Os_exc {C : Addr} {vs : List V} {Qv : V → HM → Prop} {Xc : Addr → LM → HM → Prop} {m : Nat} (XC : XCls p C) (hf : typeIn (Mine.hd.heap_39 p.w.params) (.ref 166) = some (.type "function")) (hlen : vs.length ≤ 1000) (hm : m + 10 ≤ c.n) (hL : p.g.objs.size ≤ c.L)
    (hinit : ∀ e, H e = none → CW p m (.ref 166) (.con (.ref e) :: vs) (upd H e (.exc C none)) (fun v H' => v = .none ∧ Qv (.con (.ref e)) H') Xc) (hx : ∀ C fs H', Xc C fs H' → X C fs ρ H') :
    Os p c ρ H (fun us => call (.ref C) us) vs Qv X := fun Z Fo s us hn r => by
  obtain ⟨nm, q, N, bs, bm, hdct, sn, sub, ab, col, dd, k0, k1, k2, k3, k5, hK, B⟩ := XC.ok
  obtain ⟨hh, g, dr, tk, os⟩ := s
  have X' := p.X.keeps hn.st.base
  refine x_call (C := C) (nm := nm) (q := q) (N := N) (bs := bs) (hdct := hdct) (sn := sn) (sub := sub) (ab := ab) (col := col) (dd := dd) (k0 := k0) (k1 := k1) (k2 := k2) (k3 := k3) (k5 := k5) B X' XC.init hf (X' _ _ hK) (fun h' e hm' => ?_) (by rw [← r.1, sizeLine_eq]; omega)
  obtain ⟨t, ht, _, _⟩ := hm'.there
  obtain ⟨hH, hZ, hF, st2⟩ := hn.st.new (h' := h') (tk := tk) (o' := .exc C none) hm'.new hm'.keeps ⟨t, ht⟩
  have hnn := hn.n
  let c' : Cx := ⟨c.env, c.fr, c.n - 5⟩
  have now' : Now p c' Z Fo ρ (upd H e (.exc C none)) ⟨h', g, dr, tk, os⟩ := ⟨st2, hn.lo, hn.fr, by show c.n - 5 < 600; omega⟩
  have := hinit e hH c' ρ (by show m ≤ c.n - 5; omega) hL Z Fo _ (.ref e :: us) now' (.cons (.con _) r)
  refine wpAny_AR (wpAny_mono (wpAny_call this) (fun u s₂ ⟨Z₂, H₂, v, z2, st2, r2, hv, hq⟩ => ?_) (fun u s₂ x => ?_)) rfl ?_ rfl ?_
  · subst hv; cases r2
    exact ⟨rfl, Z₂, H₂, _, z2, st2, .con _, hq⟩
  · obtain ⟨Z', ρ', H', B', e', C', d, md, fs, h1, h2, h3, h4, h5, h6⟩ := x
    subst h5
    exact ⟨Z', ρ', H', B', e', C', d, md, fs, h1, h2, h3, h4, hx _ _ _ h6⟩
  · show 998 - c.n + (Code.builtin "type.__call__" ⟨.ref C :: us, []⟩).weight ≤ 998 - (c.n - 5)
    rw [weight_type_call_ref]; omega
  · show 9000 - 10 * c.n + (Code.builtin "type.__call__" ⟨.ref C :: us, []⟩).cUnits ≤ 9000 - 10 * (c.n - 5)
    rw [units_type_call_ref]; omega
end
end TextL16
section TextL17
open PySem PySem.W PyProof.Rows PySem.Calls
section
variable {M : Model} {A : Around} {E : Value → Shared → Prop} {h : Heap} {g : Array GenState} {d : Drawn} {t : Nat} {os : OsState}
variable {nm q : Str} {C N : Addr} {bs bm : List Value} {hdct : Bool} {sn : List Str} {sub : List Value} {ab : Bool} {col : Option Bool} {dd : Option Addr} {k0 k1 k2 k3 k5 : Option Value}
theorem x_check_init (B : ExcLine bm) {e : Addr} {oe : Obj} {rest : List Value} {Q : Unit → Shared → Prop}
    (hC : h.get? C = some (excClassObj nm q C N bs bm hdct sn sub ab col dd k0 k1 k2 k3 k5 "Exception.__new__")) (he : h.get? e = some oe) (hcls : oe.cls = .ref C) (hq : Q () ⟨h, g, d, t, os⟩) :
    wpAny M A (checkBuiltinCall "Exception.__init__" ⟨.ref e :: rest, []⟩) Q E ⟨h, g, d, t, os⟩ := by
  have F := PySem.F.excBase_Exception
  have hcB : (Value.ref C :: bm).contains (.type "Exception") = true := by rw [List.contains_cons, B.exc, Bool.or_true]
  have hshort := F.noStar
  simp only [checkBuiltinCall, F.initKind, F.initSplit, F.initRow]
  repeat (first | (with_reducible refine wpAny_loadPart_at he ?_; rw [hcls]) | with_reducible refine wpAny_loadPart_at hC ?_ | (with_reducible refine wpAny_isSubtype_exc hC ?_; rw [hcB]) | wp_step)
  refine wpAny_onRaise ?_
  rw [show ∀ (a b : String) (n : Nat), Bind.check ⟨.positional, "*", "Exception", .self, [⟨"args", .varPos, false⟩]⟩ a b n (List.map (fun x => x.fst) ({ pos := Value.ref e :: rest } : Args).kw) = pure () from
    fun a b n => check_star_args _ _ _ _ _ _]
  exact wpAny_pure hq
end
section
variable {p : Pm} {n : Nat} {c : Cx} {ρ : LM} {H H2 : HM} {X : XQ} {Q : V → HM → Prop} {Z : GM} {Fo : FM} {s : Shared}
theorem Os_exc_init {C e : Addr} {v : V} {od : Option Addr} (XC : XCls p C) (he : H e = some (.exc C od)) (h : Q .none H) : Os p c ρ H (fun us => call (.builtin "Exception.__init__") us) [.con (.ref e), v] Q X := fun Z Fo s us hn r => by
  obtain ⟨u, us, rfl, r1, r⟩ := r.inv
  obtain ⟨uv, us, rfl, r2, r⟩ := r.inv
  rw [r.inv_nil]
  cases r1
  obtain ⟨nm, q, N, bs, bm, hdct, sn, sub, ab, col, dd, k0, k1, k2, k3, k5, hK, B⟩ := XC.ok
  have X' := p.X.keeps hn.st.base
  obtain ⟨t, hte⟩ := hn.st.own e _ he
  have F := PySem.F.excBase_Exception
  obtain ⟨hh, g, dr, tk, os⟩ := s
  refine wpAny_call (codeAny_call_builtin F.init.plain F.initEntry (x_check_init (C := C) (nm := nm) (q := q) (N := N) (bs := bs) (hdct := hdct) (sn := sn) (sub := sub) (ab := ab) (col := col) (dd := dd) (k0 := k0) (k1 := k1) (k2 := k2) (k3 := k3) (k5 := k5) B (X' _ _ hK) hte rfl ?_))
  unfold Builtin.«BaseException.__init__»
  dsimp only
  rw [if_neg (by simp)]
  unfold newTuple Builtin.BaseException.bexcPut
  have he₁ := Heap.get?_push_of_some (h := hh) { cls := .type "tuple", data := .seq #[uv] } hte
  refine wpAny_bind (wpAny_newObj_type (wpAny_bind (wpAny_bind (wpAny_field he₁ rfl rfl (wpAny_bind (wpAny_setField he₁ rfl (show 0 < 6 by omega) ?_))))) (by show ([uv].toArray).size ≤ sizeLine; rw [sizeLine_eq]; show 1 ≤ _; omega))
  refine wpAny_letGo (wpAny_pure ⟨Z, _, .none, Le.refl _, ?_, .none, h⟩)
  have z : H = upd H e (.exc C od) := (upd_self he).symm
  rw [z]
  refine hn.st.put (h' := (hh.push { cls := .type "tuple", data := .seq #[uv] }).update e (Obj.mapFields (·.setIfInBounds 0 (.ref hh.objs.size)))) he ?_ ⟨hh.objs.size, ?_⟩
  · exact fun b o hb q => by rw [Heap.get?_update_other _ _ (fun w => hb w.symm)]; exact Heap.get?_push_of_some _ q
  · rw [Heap.get?_update_self _ he₁ rfl]; rfl

theorem G_exc_init {Qm : Value → List V → HM → Prop} (hL : p.g.objs.size ≤ c.L) (e : findCls (Mine.hd.heap_39 p.w.params) (.type "Exception") (.type "type") "__init__" = some (.val (.builtin "Exception.__init__"))) (h : Qm (.builtin "Exception.__init__") [] H) :
    G1 p c ρ H "__init__" (.con (.type "Exception")) Qm X := fun Z Fo s u pl hn r => by
  cases r
  obtain ⟨m, F, _⟩ := hn.Fr hL
  exact method_type F p.X (by rw [typeOf]; rfl) (by decide +kernel) e (by rfl) ⟨Z, H, [], Le.refl _, hn.st.toks, .nil, h⟩
end
theorem refuse_base (self : Value) : refuseLoop self "__setattr__" [.type "Exception", .type "BaseException", .type "object"] = pure () := by kernel_rfl
theorem refuse_exc (self : Value) : ∀ {l : List Value}, excMro l = true → refuseLoop self "__setattr__" l = pure ()
  | [.type a, .type b, .type o], e => by
    simp only [excMro, Bool.and_eq_true, beq_iff_eq] at e
    obtain ⟨⟨rfl, rfl⟩, rfl⟩ := e
    exact refuse_base self
  | .ref c :: r, e => by
    have e' : excMro r = true := by
      cases r with
      | nil => exact e
      | cons x r => cases r with
        | nil => exact e
        | cons y r => cases r <;> exact e
    rw [refuseLoop_ref]; exact refuse_exc self e'
theorem exc_has : ∀ {l : List Value}, excMro l = true → l.contains (.type "object") = true
  | [.type a, .type b, .type o], e => by
    simp only [excMro, Bool.and_eq_true, beq_iff_eq] at e
    obtain ⟨⟨rfl, rfl⟩, rfl⟩ := e
    decide +kernel
  | .ref c :: r, e => by
    have e' : excMro r = true := by
      cases r with
      | nil => exact e
      | cons x r => cases r with
        | nil => exact e
        | cons y r => cases r <;> exact e
    rw [List.contains_cons, exc_has e', Bool.or_true]
section
variable {prog : Program} {w : World} {A : Around} {R : Result → Shared → Prop} {s : Shared} {K : Frag} {x C : Addr}
theorem x_osa_open {ox : Obj} {od : Option Obj} {name : Str} {tk : Tok} {v : Value} (X : K.In s.heap) (I : InstAt s.heap x ox C od) (hp : (clsIn K C).any (fun cd => excMro cd.mro) = true) (ht : takerIn K C name = some none)
    (h : ∀ b, wpAny (model prog w) A.in1 (Builtin.ObjectAttr.storeInOwnDict (.ref x) (.ref C) (.str name tk) name v b)
      (fun fin s' => match fin with | .done f => R (.ok f) s' | .again c' => c'.quiet = true ∧ codeAny (model prog w) A c' R s') (fun e s' => R (.error e) s') s) :
    codeAny (model prog w) A (.call (.builtin "object.__setattr__") ⟨[.ref x, .str name tk, v], []⟩) R s := by
  have SF := PySem.F.store_object
  obtain ⟨cd, hc, ho⟩ := any_some hp
  have ne : cd.mro.isEmpty = false := by cases q : cd.mro with | nil => rw [q] at ho; cases ho | cons _ _ => rfl
  have sub : Looks (model prog w) s.heap (isInstance (.ref x) (.type "object")) true := I.type.andThen (looks_mroIn X (by unfold mroIn; rw [hc, Option.bind_some, if_neg (by rw [ne]; decide), exc_has ho]))
  refine codeAny_call_builtin SF.slot.plain SF.entry (@check_slot (model prog w) _ _ s "object.__setattr__" "object" "__setattr__" (.ref x) [.str name tk, v] [] _ SF.kind SF.split sub (SF.args (.ref x) (.str name tk) v) ?_)
  obtain ⟨attr, ha, hr⟩ := Option.bind_eq_some_iff.mp ht
  have hm : Looks (model prog w) s.heap (mroOf (.ref C)) cd.mro := (looks_clsIn X hc).andThen .now
  have L3 : Looks (model prog w) s.heap (Builtin.ObjectAttr.storeTaker? attr) none := by
    cases attr with
    | none => exact .now
    | some a =>
      obtain ⟨b, hb, hr⟩ := Option.map_eq_some_iff.mp hr
      refine (looks_takesIn X hb).andThen ?_
      cases b
      · exact .now
      · cases hr
  rw [osa_eq, refuse_eq]
  refine wpAny_bind (wpAny_bind (I.type.here (wpAny_bind (hm.here ?_))))
  rw [refuse_exc _ ho]
  refine wpAny_pure (wpAny_bind (I.type.here (wpAny_bind ((looks_findIn X ha).here (wpAny_bind (L3.here ?_))))))
  exact h _
end
section
variable {p : Pm} {n : Nat} {c : Cx} {ρ : LM} {H H2 : HM} {X : XQ} {Qu : LM → HM → Prop} {Z : GM} {Fo : FM} {s : Shared}
theorem U_exc_next {C e d : Addr} {name : Str} {v : V} {fs : List (Str × V)} (XC : XCls p C) (ht : takerIn (Mine.hd.heap_39 p.w.params) C name = some none) (he : H e = some (.exc C (some d))) (hd : H d = some (.flds fs)) (hlen : fs.length ≤ 900)
    (h : Qu ρ (upd H d (.flds (fset name v fs)))) : U2 p c ρ H (fun ov v => setAttr ov name v) (.con (.ref e)) v Qu X := fun Z Fo s u uv hn r rv => by
  cases r
  obtain ⟨t, hte⟩ := hn.st.own e _ he
  obtain ⟨es, n, D, rf⟩ := hn.st.own d _ hd
  have X' : (Mine.hd.heap_39 p.w.params).In s.heap := p.X.keeps hn.st.base
  have I : InstAt s.heap e { cls := .ref C, dict := some d, data := .fields #[.ref t, .none, .none, .none, .bool false, .none] } C (some (dictOf es n)) := ⟨hte, rfl, rfl, D⟩
  refine set_plain X' I XC.set ?_
  refine x_osa_open (s := { s with toks := s.toks + 1 }) X' I XC.mro ht fun b => ?_
  obtain ⟨cd, hc, hd'⟩ := any_some XC.dict
  refine wpAny_bind (wpAny_pure (wpAny_bind (wpAny_bind (wpAny_loadPart hte (wpAny_bind (Looks.here (s := { s with toks := s.toks + 1 }) (looks_clsIn X' hc) ?_))))))
  rw [hd']
  refine wpAny_pure (a := some d) (wpAny_bind (wpAny_pure (wpAny_bind ?_)))
  unfold nsSet
  refine wpAny_bind (wpAny_bind (wpAny_askSetting (wpAny_pure (wpAny_bind (wpAny_mkText (wpAny_bind (wpAny_loadPart D ?_)))))))
  dsimp only
  have nr : (es.toArray.any (·.refKey)) = false := by rw [← Array.any_toList]; exact rf.norefs
  have cc : (!es.toArray.any (·.key.isStr name) && es.toArray.any (·.refKey)) = false := by rw [nr, Bool.and_false]
  rw [aRefKeyMayBeTheName_at, cc]
  refine wpAny_updatePart D ?_
  have hput : ∀ (hsh : Int) (k x : Value), Obj.putName name hsh k x (dictOf es n) = dictOf (putL name hsh k x es) (putN name es n) := fun _ _ _ => putName_dict ..
  have D' := Heap.get?_update_self (f := Obj.putName name (PyData.keyHash p.w.params name) (.str name (s.toks + 1)) uv) D (by rw [hput]; rfl)
  refine wpAny_bind (wpAny_lookBehind D' (by rw [hput]; exact pastItsLine_dict (by rw [List.size_toArray, sizeLine_eq]; have := putL_len (n := name) (hsh := PyData.keyHash p.w.params name) (k := .str name (s.toks + 1)) (u := uv) es; have := rf.1; omega)) ?_)
  refine wpAny_pure ?_
  refine ⟨Z, ρ, _, Le.refl _, ?_, h⟩
  rw [upd_self hn.lo]
  refine hn.st.put hd (Heap.SameBut.update ..).extBut ⟨_, putN name es n, ?_, rf.put (hsh := PyData.keyHash p.w.params name) (t := s.toks + 1) rv⟩
  exact D'.trans (congrArg some (hput ..))

theorem U_exc_first {C e : Addr} {name : Str} {v : V} (XC : XCls p C) (ht : takerIn (Mine.hd.heap_39 p.w.params) C name = some none) (he : H e = some (.exc C none))
    (h : ∀ d, H d = none → d ≠ e → Qu ρ (upd (upd H d (.flds [(name, v)])) e (.exc C (some d)))) : U2 p c ρ H (fun ov v => setAttr ov name v) (.con (.ref e)) v Qu X := fun Z Fo s u uv hn r rv => by
  cases r
  obtain ⟨hh, g, dr, tk, os⟩ := s
  obtain ⟨t, hte⟩ := hn.st.own e _ he
  have X' : (Mine.hd.heap_39 p.w.params).In hh := p.X.keeps hn.st.base
  have I : InstAt hh e { cls := .ref C, dict := none, data := .fields #[.ref t, .none, .none, .none, .bool false, .none] } C none := ⟨hte, rfl, rfl, trivial⟩
  refine set_plain X' I XC.set ?_
  refine x_osa_open (s := ⟨hh, g, dr, tk + 1, os⟩) X' I XC.mro ht fun b => ?_
  obtain ⟨cd, hc, hd'⟩ := any_some XC.dict
  refine wpAny_bind (wpAny_pure (wpAny_bind (wpAny_bind (wpAny_loadPart hte (wpAny_bind (Looks.here (s := ⟨hh, g, dr, tk + 1, os⟩) (looks_clsIn X' hc) ?_))))))
  rw [hd']
  have hnone : hh.get? hh.objs.size = none := Heap.get?_none_of_le (Nat.le_refl _)
  have hte1 := Heap.get?_push_of_some (h := hh) { cls := .type "dict", data := .dict #[] } hte
  have hed : e ≠ hh.objs.size := fun q => by rw [← q, hte] at hnone; cases hnone
  have D0 : (hh.push { cls := .type "dict", data := .dict #[] }).get? hh.objs.size = some { cls := .type "dict", data := .dict #[] } := Heap.get?_push_size _ rfl
  refine wpAny_bind (wpAny_alloc ?_)
  refine wpAny_bind (wpAny_update hte1 ?_)
  have D : ((hh.push { cls := .type "dict", data := .dict #[] }).update e fun o => { o with dict := some hh.objs.size }).get? hh.objs.size = some (dictOf [] 0) := by
    rw [Heap.get?_update_other _ _ hed]; exact D0
  have Ee : ((hh.push { cls := .type "dict", data := .dict #[] }).update e fun o => { o with dict := some hh.objs.size }).get? e = some { cls := .ref C, dict := some hh.objs.size, data := .fields #[.ref t, .none, .none, .none, .bool false, .none] } := by
    rw [Heap.get?_update_self _ hte1 rfl]
  have keep : ∀ b o, b ≠ e → hh.get? b = some o → ((hh.push { cls := .type "dict", data := .dict #[] }).update e fun o => { o with dict := some hh.objs.size }).get? b = some o := fun b o hb q => by
    rw [Heap.get?_update_other _ _ (fun w => hb w.symm)]; exact Heap.get?_push_of_some _ q
  have pushd : ∀ o : Obj, o.isFreed = false → (hh.push o).get? hh.objs.size = some o := fun o q => Heap.get?_push_size _ q
  dsimp only
  generalize hsz : hh.objs.size = d at *
  generalize ((hh.push { cls := .type "dict", data := .dict #[] }).update e fun o => { o with dict := some d }) = h2 at *
  refine wpAny_pure (wpAny_bind ?_)
  refine wpAny_pure (wpAny_bind ?_)
  unfold nsSet
  refine wpAny_bind (wpAny_bind (wpAny_askSetting (wpAny_pure (wpAny_bind (wpAny_mkText (wpAny_bind (wpAny_loadPart D ?_)))))))
  dsimp only
  have cc : (!(([] : List DictEntry).toArray.any (·.key.isStr name)) && ([] : List DictEntry).toArray.any (·.refKey)) = false := by simp
  rw [aRefKeyMayBeTheName_at, cc]
  refine wpAny_updatePart D ?_
  have hput : ∀ (hsh : Int) (k x : Value), Obj.putName name hsh k x (dictOf [] 0) = dictOf (putL name hsh k x []) (putN name [] 0) := fun _ _ _ => putName_dict ..
  have D' := Heap.get?_update_self (f := Obj.putName name (PyData.keyHash p.w.params name) (.str name (tk + 1)) uv) D (by rw [hput]; rfl)
  refine wpAny_bind (wpAny_lookBehind D' (by rw [hput]; exact pastItsLine_dict (by rw [List.size_toArray, sizeLine_eq]; have := putL_len (n := name) (hsh := PyData.keyHash p.w.params name) (k := .str name (tk + 1)) (u := uv) []; simp only [List.length_nil] at this; omega)) ?_)
  refine wpAny_pure ?_
  have rf : RepF Z [(name, v)] (putL name (PyData.keyHash p.w.params name) (.str name (tk + 1)) uv []) := RepF.put (fs := []) rv RepF.nil
  have hHd : H d = none := by
    cases q : H d with
    | none => rfl
    | some o => obtain ⟨cc, q⟩ := (hn.st.own d o q).some_; rw [show hh.get? d = none from hnone] at q; cases q
  obtain ⟨-, -, -, st1⟩ := hn.st.new (h' := hh.push (dictOf (putL name (PyData.keyHash p.w.params name) (.str name (tk + 1)) uv []) (putN name [] 0))) (tk := tk) (o' := .flds [(name, v)]) hnone (fun b o q => Heap.get?_push_of_some _ q) ⟨_, _, pushd _ rfl, rf⟩
  refine ⟨Z, ρ, _, Le.refl _, ?_, h d hHd (fun q => hed q.symm)⟩
  rw [upd_self hn.lo]
  have he' : (upd H d (.flds [(name, v)])) e = some (.exc C none) := by rw [upd_ne hed]; exact he
  refine st1.put (h' := h2.update d (Obj.putName name (PyData.keyHash p.w.params name) (.str name (tk + 1)) uv)) he' (fun b o hb q => ?_) ⟨t, ?_⟩
  · by_cases w : b = d
    · subst w; rw [pushd _ rfl] at q; rw [D', hput]; exact q
    · rw [Heap.get?_update_other _ _ (fun z => w z.symm)]
      refine keep b o hb ?_
      rcases Heap.get?_push_cases q with ⟨z, _⟩ | q
      · exact absurd (z.trans hsz) w
      · exact q
  · rw [Heap.get?_update_other _ _ (fun z => hed z.symm)]; exact Ee
end
end TextL17
section TextL18
open PySem PySem.W PyProof.Rows PySem.Calls
section
variable {p : Pm} {n : Nat} {c : Cx} {ρ : LM} {H H2 : HM} {X : XQ} {Q : AF → LM → HM → Prop} {Qv : V → HM → Prop} {Z : GM} {Fo : FM} {s : Shared} {rest : List Stmt}
theorem K_Raise {ex : Expr} {pos : Pos} (C : Addr) (XC : XCls p C) (h : EW p c ρ H (eval ex c.env) (fun v H₁ => ∃ e d fs H2, v = .con (.ref e) ∧ H₁ = upd (upd H2 d (.flds fs)) e (.exc C (some d)) ∧ d ≠ e ∧ H2 e = none ∧ H2 d = none ∧ X C fs ρ H2) X) :
    SW p c ρ H (execs (.Raise (some ex) none pos :: rest) c.env) Q X := S_cons (S_Raise C XC h)

theorem rng_new (hn : Now p c Z Fo ρ H s) {a b d : Int} {t u v : Tok} {tk : Nat} (h : Qv (.rng a b d) H) :
    EPost p Z Fo Qv (.ref s.heap.objs.size) { s with heap := s.heap.push { cls := .type "range", data := .fields #[.int a t, .int b u, .int d v] }, toks := tk } := by
  have hnone : s.heap.get? s.heap.objs.size = none := Heap.get?_none_of_le (Nat.le_refl _)
  have hget : (s.heap.push { cls := .type "range", data := .fields #[.int a t, .int b u, .int d v] }).get? s.heap.objs.size = some { cls := .type "range", data := .fields #[.int a t, .int b u, .int d v] } := Heap.get?_push_size _ rfl
  obtain ⟨hle, st2⟩ := hn.st.frz (tk := tk) hnone (fun b o e => Heap.get?_push_of_some _ e) hget
  exact ⟨_, H, _, hle, st2, .rng (upd_same ..), h⟩
theorem Os_range1 {a : Int} (h : Qv (.rng 0 a 1) H) : Os p c ρ H (fun us => call (.type "range") us) [.int a] Qv X := fun Z Fo s us hn r => by
  obtain ⟨u, us, rfl, r1, r⟩ := r.inv
  rw [r.inv_nil]
  cases r1
  exact call_range_1 (rng_new hn h)
theorem Os_range2 {a b : Int} (h : Qv (.rng a b 1) H) : Os p c ρ H (fun us => call (.type "range") us) [.int a, .int b] Qv X := fun Z Fo s us hn r => by
  obtain ⟨u, us, rfl, r1, r⟩ := r.inv
  obtain ⟨u2, us, rfl, r2, r⟩ := r.inv
  rw [r.inv_nil]
  cases r1; cases r2
  exact call_range_2 (rng_new hn h)
theorem rs_one (a : Int) (k : Nat) : Builtin.Range.rangeSize a (a + k) 1 = (k : Int) := by
  rw [rangeSize_one]
  split <;> omega

theorem Os_make {C fI : Addr} {vs : List V} {Xc : Addr → LM → HM → Prop} {m : Nat} (hm : makesIn (Mine.hd.heap_39 p.w.params) C = true) (hi : findIn (Mine.hd.heap_39 p.w.params) (.ref C) "__init__" = some (some (.ref fI))) (hf : typeIn (Mine.hd.heap_39 p.w.params) (.ref fI) = some (.type "function"))
    (hmn : m + 10 ≤ c.n) (hL : p.g.objs.size ≤ c.L)
    (hinit : ∀ a d, H a = none → H d = none → CW p m (.ref fI) (.ob C a d :: vs) (upd H d (.flds [])) (fun v H' => v = .none ∧ Qv (.ob C a d) H') Xc) (hx : ∀ C fs H', Xc C fs H' → X C fs ρ H') :
    Os p c ρ H (fun us => call (.ref C) us) vs Qv X := fun Z Fo s us hn r => by
  obtain ⟨hh, g, dr, tk, os⟩ := s
  have X' := p.X.keeps hn.st.base
  have hnone : hh.get? hh.objs.size = none := Heap.get?_none_of_le (Nat.le_refl _)
  have hnone1 : (hh.push emptyDict).get? (hh.objs.size + 1) = none := Heap.get?_none_of_le (by rw [Heap.size_push]; exact Nat.le_refl _)
  obtain ⟨hH, hZ, hF, st2⟩ := hn.st.new (h' := hh.push emptyDict) (tk := tk) (o' := .flds []) hnone (fun b o e => Heap.get?_push_of_some _ e) ⟨[], 0, Heap.get?_push_size _ rfl, RepF.nil⟩
  have hget : ((hh.push emptyDict).push (instObj C hh.objs.size)).get? (hh.objs.size + 1) = some (instObj C hh.objs.size) := by
    have := Heap.get?_push_size (hh.push emptyDict) (o := instObj C hh.objs.size) rfl
    rwa [Heap.size_push] at this
  obtain ⟨hle, st3⟩ := st2.frz (h' := (hh.push emptyDict).push (instObj C hh.objs.size)) (tk := tk) hnone1 (fun b o e => Heap.get?_push_of_some _ e) hget
  have hHa : H (hh.objs.size + 1) = none := by
    cases q : H (hh.objs.size + 1) with
    | none => rfl
    | some o =>
      obtain ⟨cc, q⟩ := (hn.st.own _ o q).some_
      have := Heap.lt_size (show hh.get? (hh.objs.size + 1) = some cc from q)
      exact absurd (Nat.lt_of_succ_lt this) (Nat.lt_irrefl _)
  have hnn := hn.n
  let c' : Cx := ⟨c.env, c.fr, c.n - 5⟩
  have now' : Now p c' (upd Z (hh.objs.size + 1) (instObj C hh.objs.size)) Fo ρ (upd H hh.objs.size (.flds [])) ⟨(hh.push emptyDict).push (instObj C hh.objs.size), g, dr, tk, os⟩ := ⟨st3, hn.lo, hn.fr, by show c.n - 5 < 600; omega⟩
  have z := hinit (hh.objs.size + 1) hh.objs.size hHa hH c' ρ (by show m ≤ c.n - 5; omega) hL _ Fo _ (.ref (hh.objs.size + 1) :: us) now' (.cons (.ob (upd_same ..)) (r.mono hle))
  refine wpAny_call (make_core (makes_of X' hm) (looks_findIn X' hi) (fun self => bind_fn X' self hf) (.inl rfl) (codeAny_AR (codeAny_mono z fun r s₂ y => ?_) rfl ?_ rfl ?_))
  · rcases r with e | (_ | _ | _ | u)
    · obtain ⟨Z', ρ', H', B', e', C', d, md, fs, h1, h2, h3, h4, h5, h6⟩ := y
      subst h5
      exact ⟨Z', ρ', H', B', e', C', d, md, fs, h1, hle.trans h2, h3, h4, hx _ _ _ h6⟩
    · exact y
    · exact y
    · exact y
    · obtain ⟨Z₂, H₂, v, z2, st4, r2, hv, hq⟩ := y
      subst hv; cases r2
      exact ⟨rfl, Z₂, H₂, _, hle.trans z2, st4, .ob (z2 _ _ (upd_same ..)), hq⟩
  · show 998 - c.n + (Code.builtin "type.__call__" ⟨.ref C :: us, []⟩).weight ≤ 998 - (c.n - 5)
    rw [weight_type_call_ref]; omega
  · show 9000 - 10 * c.n + (Code.builtin "type.__call__" ⟨.ref C :: us, []⟩).cUnits ≤ 9000 - 10 * (c.n - 5)
    rw [units_type_call_ref]; omega

theorem StX.lay {C a d : Addr} {fs : List (Str × V)} {u : Value} (st : StP p Z Fo (upd H d (.flds fs)) s) (hd : H d = none) (r : RepV Z (.ob C a d) u) : ∃ Z', Le Z Z' ∧ StP p Z' Fo H s ∧ RepV Z' (.obj C (fs.map (·.1)) (fs.map (·.2))) u := by
  have od : (upd H d (.flds fs)) d = some (.flds fs) := upd_same ..
  obtain ⟨es, m, D, rf⟩ := st.own d _ od
  cases r with
  | ob hZ =>
    have st' : StP p Z Fo H s := st.drop fun b o e => by
      by_cases h : b = d
      · subst h; rw [hd] at e; cases e
      · rw [upd_ne h]; exact e
    have gd : p.g.get? d = none := (st.hb d _ od).1
    have zd : Z d = none := (st.hb d _ od).2 rfl
    have fd : Fo d = none := by cases q : Fo d with | none => rfl | some ρ' => have := (st.fb d ρ' q).2.2; rw [od] at this; cases this
    obtain ⟨hle, st2⟩ := St.adopt st' ⟨zd, fd, hd, gd⟩ D
    refine ⟨_, hle, st2, ?_⟩
    have hl := rf.1
    refine .obj (hle _ _ hZ) rfl rfl rfl (upd_same ..) (by simp [hl]) (by simp [hl]) ?_ ?_
    · intro i x e hx he
      rw [List.getElem?_map, Option.map_eq_some_iff] at hx
      obtain ⟨f, hf, rfl⟩ := hx
      exact (rf.2 i f e hf he).1
    · intro i v e hv he
      rw [List.getElem?_map, Option.map_eq_some_iff] at hv
      obtain ⟨f, hf, rfl⟩ := hv
      exact (rf.2 i f e hf he).2.mono hle
theorem EPost.lay {u : Value} (h : EPost p Z Fo (fun v H' => ∃ C a d fs H2, v = .ob C a d ∧ H' = upd H2 d (.flds fs) ∧ H2 d = none ∧ Qv (.obj C (fs.map (·.1)) (fs.map (·.2))) H2) u s) : EPost p Z Fo Qv u s := by
  obtain ⟨Z₁, H', v, z, st, r, C, a, d, fs, H2, hv, hH, hd, hq⟩ := h
  subst hv hH
  obtain ⟨Z', hle, st', r'⟩ := StX.lay st hd r
  exact ⟨Z', H2, _, z.trans hle, st', r', hq⟩
theorem Os.lay {f : List Value → Sem Value} {vs : List V} (h : Os p c ρ H f vs (fun v H' => ∃ C a d fs H2, v = .ob C a d ∧ H' = upd H2 d (.flds fs) ∧ H2 d = none ∧ Qv (.obj C (fs.map (·.1)) (fs.map (·.2))) H2) X) : Os p c ρ H f vs Qv X :=
  fun Z Fo s us hn r => wpAny_mono (h Z Fo s us hn r) (fun u s' e => e.lay) fun _ _ e => e
end
end TextL18
section TextL19
open PySem PySem.W PyProof.Rows PySem.Calls
section
variable {κ : Type} [DecidableEq κ]
def gva (es : List (κ × V)) (k : κ) : Option V := (es.find? fun e => decide (e.1 = k)).map (·.2)
def gst (es : List (κ × V)) (k : κ) (v : V) : List (κ × V) := if es.any (fun e => decide (e.1 = k)) = true then es.map (fun e => if e.1 = k then (e.1, v) else e) else es ++ [(k, v)]
theorem RepKV.inv {Z : GM} {e : κ × V} {es : List (κ × V)} {kvs : List (κ × Value)} (r : RepKV Z (e :: es) kvs) : ∃ kv kvs', kvs = kv :: kvs' ∧ e.1 = kv.1 ∧ RepV Z e.2 kv.2 ∧ RepKV Z es kvs' := by
  obtain ⟨r1, r2⟩ := r
  cases kvs with
  | nil => simp at r1
  | cons kv kvs =>
    simp only [List.map_cons, List.cons.injEq] at r1
    obtain ⟨u, us, hu, r3, r4⟩ := RepVs.inv (show RepVs Z (e.2 :: es.map (·.2)) (kv.2 :: kvs.map (·.2)) from r2)
    cases hu
    exact ⟨kv, kvs, rfl, r1.1, r3, r1.2, r4⟩
theorem RepKV.inv_nil {Z : GM} {kvs : List (κ × Value)} (r : RepKV Z ([] : List (κ × V)) kvs) : kvs = [] := by
  cases kvs with
  | nil => rfl
  | cons kv kvs => have := r.1; simp at this
theorem RepKV.nil {Z : GM} : RepKV Z ([] : List (κ × V)) [] := ⟨rfl, .nil⟩
theorem RepKV.cons {Z : GM} {k : κ} {v : V} {u : Value} {es : List (κ × V)} {kvs : List (κ × Value)} (r : RepV Z v u) (rs : RepKV Z es kvs) : RepKV Z ((k, v) :: es) ((k, u) :: kvs) :=
  ⟨by simp only [List.map_cons]; rw [rs.1], RepVs.cons r rs.2⟩
theorem RepKV.get {Z : GM} {k : κ} : ∀ {es : List (κ × V)} {kvs : List (κ × Value)}, RepKV Z es kvs → (∀ v, gva es k = some v → ∃ u, valueAt kvs k = some u ∧ RepV Z v u) ∧ ((valueAt kvs k).isSome = (gva es k).isSome)
  | [], kvs, r => by rw [r.inv_nil]; exact ⟨fun v h => by simp [gva] at h, rfl⟩
  | e :: es, kvs, r => by
    obtain ⟨kv, kvs, rfl, h1, h2, r⟩ := r.inv
    have ih := r.get (k := k)
    by_cases h : e.1 = k
    · have h' : kv.1 = k := h1 ▸ h
      simp [gva, valueAt, h, h', h2]
    · have h' : ¬ kv.1 = k := h1 ▸ h
      simpa [gva, valueAt, h, h'] using ih
theorem RepKV.anyk {Z : GM} {k : κ} : ∀ {es : List (κ × V)} {kvs : List (κ × Value)}, RepKV Z es kvs → kvs.any (fun kv => decide (kv.1 = k)) = es.any (fun e => decide (e.1 = k))
  | [], kvs, r => by rw [r.inv_nil]; rfl
  | e :: es, kvs, r => by
    obtain ⟨kv, kvs, rfl, h1, h2, r⟩ := r.inv
    rw [List.any_cons, List.any_cons, r.anyk, h1]
theorem RepKV.mapk {Z : GM} {k : κ} {v : V} {u : Value} (rv : RepV Z v u) : ∀ {es : List (κ × V)} {kvs : List (κ × Value)}, RepKV Z es kvs → RepKV Z (es.map (fun e => if e.1 = k then (e.1, v) else e)) (kvs.map (fun kv => if kv.1 = k then (kv.1, u) else kv))
  | [], kvs, r => by rw [r.inv_nil]; exact .nil
  | e :: es, kvs, r => by
    obtain ⟨kv, kvs, rfl, h1, h2, r'⟩ := r.inv
    rw [List.map_cons, List.map_cons]
    by_cases h : e.1 = k
    · have h' : kv.1 = k := h1 ▸ h
      rw [if_pos h, if_pos h', ← h1]; exact .cons rv (r'.mapk rv)
    · have h' : ¬ kv.1 = k := h1 ▸ h
      rw [if_neg h, if_neg h']
      obtain ⟨a, b⟩ := e
      obtain ⟨a', b'⟩ := kv
      dsimp only at h1; subst h1
      exact .cons h2 (r'.mapk rv)
theorem RepKV.snoc {Z : GM} {k : κ} {v : V} {u : Value} (rv : RepV Z v u) : ∀ {es : List (κ × V)} {kvs : List (κ × Value)}, RepKV Z es kvs → RepKV Z (es ++ [(k, v)]) (kvs ++ [(k, u)])
  | [], kvs, r => by rw [r.inv_nil]; exact .cons rv .nil
  | e :: es, kvs, r => by
    obtain ⟨kv, kvs, rfl, h1, h2, r'⟩ := r.inv
    obtain ⟨a, b⟩ := e
    obtain ⟨a', b'⟩ := kv
    dsimp only at h1; subst h1
    exact .cons h2 (r'.snoc rv)
theorem RepKV.put {Z : GM} {k : κ} {v : V} {u : Value} (rv : RepV Z v u) {es : List (κ × V)} {kvs : List (κ × Value)} (r : RepKV Z es kvs) : RepKV Z (gst es k v) (stored kvs k u) := by
  unfold gst stored
  rw [r.anyk]
  split
  · exact r.mapk rv
  · exact r.snoc rv
theorem RepKV.len {Z : GM} {es : List (κ × V)} {kvs : List (κ × Value)} (r : RepKV Z es kvs) : es.length = kvs.length := by
  have := congrArg List.length r.1; simpa using this
end
section
variable {p : Pm} {n : Nat} {c : Cx} {ρ : LM} {H H2 : HM} {X : XQ} {Q : V → HM → Prop} {Qu : LM → HM → Prop} {Z : GM} {Fo : FM} {s : Shared} {rest : List Stmt} {E : Addr} {es : List (Int × V)}
theorem notSys (hn : Now p c Z Fo ρ H s) {o : AObj} (hE : H E = some o) : (E == sysModules) = false := by
  rw [beq_eq_false_iff_ne]
  intro e
  have := (hn.st.hb E _ hE).1
  rw [e] at this
  exact p.sysM this
theorem O_in_dint {k : Int} (hE : H E = some (.dint es)) (h : Q (.bool (gva es k).isSome) H) : O2 p c ρ H (compareOp .In) (.int k) (.ref E) Q X := fun Z Fo s u v hn r1 r2 => by
  obtain ⟨kvs, hd, r⟩ := hn.st.own E _ hE
  cases r1; cases r2
  exact wpAny_in_of (knd := intKind p.prog p.w) (k := k) (by simp [intKind, Value.isInt]) (notSys hn hE) hd.mapOf (.mk' hn.st.toks (.bool _) (by rw [r.get.2]; exact h))
theorem U_set_dint {k : Int} {v : V} (hE : H E = some (.dint es)) (hl : es.length ≤ 16000000) (h : Qu ρ (upd H E (.dint (gst es k v)))) : U3 p c ρ H setItem (.ref E) (.int k) v Qu X := fun Z Fo s u w x hn r1 r2 r3 => by
  obtain ⟨kvs, hd, r⟩ := hn.st.own E _ hE
  cases r1; cases r2
  refine wpAny_setItem_pairs (knd := intKind p.prog p.w) (k := k) (hsz := by rw [← r.len, sizeLine_eq]; omega) (by simp [intKind, Value.isInt]) hd fun h' hmm hs => ?_
  refine ⟨Z, ρ, _, Le.refl _, ?_, h⟩
  rw [upd_self hn.lo]
  exact hn.st.put hE hs.extBut ⟨_, hmm, r.put r3⟩
theorem O_item_fdint {o i : Expr} {k : Int} {v : V} (hE : H E = some (.fdint es)) (hv : gva es k = some v) (h : Q v H)
    (hs : ∀ x y, subscripted i false x y = operate [x, y] (getItem x y) := by intro _ _; with_unfolding_all rfl) : O2 p c ρ H (fun x y => subscriptTail o i x y) (.ref E) (.int k) Q X := fun Z Fo s u w hn r1 r2 => by
  obtain ⟨kvs, hz, hd, r⟩ := hn.st.own E _ hE
  obtain ⟨x, h1, h2⟩ := r.get.1 v hv
  cases r1; cases r2
  exact tail_any hd.typeIs slot_dict_getitem.lookup (wpAny_getItem_of (knd := intKind p.prog p.w) (k := k) (by simp [intKind, Value.isInt]) hd.mapOf h1 (.mk' hn.st.toks h2 h)) (hs _ _)

theorem U_asg {x : Str} {pos : Pos} {v : V} (h : U1 p c ρ H (storeName c.env x) v Qu X) : U1 p c ρ H (fun u => assign (.Name x pos) c.env u) v Qu X := fun Z Fo s u hn r => wpAny_assign_Name (h Z Fo s u hn r)
end
end TextL19
section TextL20
open PySem PySem.W PyProof.Rows PySem.Calls
inductive Nv : List Str → List (Option V) → Str → Prop
  | hd {x : Str} {xs : List Str} {vs : List (Option V)} : Nv (x :: xs) (none :: vs) x
  | tl {x y : Str} {xs : List Str} {w : Option V} {vs : List (Option V)} : Nv xs vs x → Nv (y :: xs) (w :: vs) x
theorem Nv.mem {xs : List Str} {vs : List (Option V)} {x : Str} (h : Nv xs vs x) : x ∈ xs := by
  induction h with
  | hd => exact .head _
  | tl _ ih => exact .tail _ ih
theorem Nv.lookup {xs : List Str} {vs : List (Option V)} {x : Str} (h : Nv xs vs x) (nd : xs.Nodup) : (loc xs vs).lookup x = none := by
  induction h with
  | @hd x xs vs =>
    rw [List.nodup_cons] at nd
    cases q : (loc xs vs).lookup x with
    | none => exact q
    | some v => exact absurd (loc_mem q) nd.1
  | @tl x y xs w vs h' ih =>
    rw [List.nodup_cons] at nd
    have := ih nd.2
    cases w with
    | none => exact this
    | some w =>
      show List.lookup _ ((_, _) :: _) = _
      rw [lookup_cons_eq, if_neg (fun (e : x = y) => nd.1 (e ▸ h'.mem))]; exact this

section
variable {p : Pm} {n : Nat} {c : Cx} {ρ : LM} {H : HM} {X : XQ} {Q : AF → LM → HM → Prop} {xs gs : List Str} {vals vals' : List (Option V)} {rest : List Stmt} {pos : Pos} {Z : GM} {Fo : FM} {s : Shared}

theorem K_TryOk {body : List Stmt} {h₀ : ExceptHandler} {hs : List ExceptHandler} (h : SW p c ρ H (execs body c.env) (fun f ρ₁ H₁ => match f with | .next => SW p c ρ₁ H₁ (execs rest c.env) Q X | f => Q f ρ₁ H₁) (fun _ _ _ _ => False)) :
    SW p c ρ H (execs (.Try body (h₀ :: hs) [] [] pos :: rest) c.env) Q X := by
  refine S_cons fun Z Fo s hn => wpAny_Try_except (wpAny_mono (h Z Fo s hn) (fun f s₁ ⟨Z₁, ρ₁, H₁, af, z1, st1, rf, h1⟩ => ?_) (fun e s₁ ⟨_, _, _, _, _, _, _, _, _, _, _, _, _, hx⟩ => hx.elim))
  cases rf with
  | next => exact wpAny_execs_nil ⟨Z₁, ρ₁, H₁, .next, z1, st1, .next, h1⟩
  | brk => exact ⟨Z₁, ρ₁, H₁, _, z1, st1, .brk, h1⟩
  | cont => exact ⟨Z₁, ρ₁, H₁, _, z1, st1, .cont, h1⟩
  | ret r => exact ⟨Z₁, ρ₁, H₁, _, z1, st1, .ret r, h1⟩

theorem Fly.land {B : Heap} {e C d : Addr} {md : Option Value} {fs : List (Str × V)} {l : List Env} (x : Fly p l Z Fo H B s e C d md fs) : ∃ Z', Le Z Z' ∧ StP p Z' Fo H s ∧ RepV Z' (.obj C (fs.map (·.1)) (fs.map (·.2))) (.ref e) := by
  have st := x.st.st
  obtain ⟨es, m, D, rf⟩ := x.at_
  have D' := x.st.stay _ _ D
  obtain ⟨vs, sl, he, hBe, -⟩ := x.ex
  have hde : d ≠ e := fun q => by rw [q, hBe] at D; cases D
  obtain ⟨z1, st1⟩ := St.adopt st ⟨x.new.2.1, x.new.2.2.2, x.new.1, x.new.2.2.1⟩ D'
  have fe : Free p (upd Z d (dictOf es m)) Fo H e := ⟨by rw [upd_ne hde.symm]; exact x.new'.2.1, x.new'.2.2.2, x.new'.1, x.new'.2.2.1⟩
  obtain ⟨z2, st2⟩ := St.adopt st1 fe he
  refine ⟨_, z1.trans z2, st2, ?_⟩
  have hl := rf.1
  refine .obj (o := ⟨.ref C, some d, .fields vs, sl⟩) (upd_same ..) rfl rfl rfl (z2 _ _ (upd_same ..)) (by simp [hl]) (by simp [hl]) ?_ ?_
  · intro i x e hx he
    rw [List.getElem?_map, Option.map_eq_some_iff] at hx
    obtain ⟨f, hf, rfl⟩ := hx
    exact (rf.2 i f e hf he).1
  · intro i v e hv he
    rw [List.getElem?_map, Option.map_eq_some_iff] at hv
    obtain ⟨f, hf, rfl⟩ := hv
    exact (rf.2 i f e hf he).2.mono (z1.trans z2)

theorem clause_name {A : Around} {E : Value → Shared → Prop} (F : Fn p n c xs gs) {x : Str} {np : Pos} {C : Addr} (hg : x ∈ gs) (CC : Callee p x C) (st : StP p Z Fo H s) {Q : Value → Shared → Prop} (h : Q (.ref C) s) : wpAny (M p) A (eval (.Name x np) c.env) Q E s :=
  Name_function_global F.kind (F.gl x hg).1 (loadGlobal_global (by rw [F.glob]; exact p.T.g.keeps st.base) (mg_of p.X p.T.g CC.val) h) (F.gl x hg).2.1

theorem caught_W (F : Fn p n c xs gs) (hT : c.Top) (ok : FrOK Fo c.fr) {u : Value} {C : Addr} (XC : XCls p C) {x : Str} {np : Pos} (hg : x ∈ gs) (CC : Callee p x C) {name : Option Str} {b₀ : Stmt} {suite : List Stmt} {hpos : Pos} {hs : List ExceptHandler} {Qf : Flow → Shared → Prop} {E : Value → Shared → Prop}
    (x₀ : XPost p c Z Fo (fun C' fs ρ₁ H₁ => C' = C ∧ X C' fs ρ₁ H₁) u s)
    (h : ∀ e ρ₁ H₁ fs s₁, u = .ref e → X C fs ρ₁ H₁ →
      (∀ (A : Around) (P : Unit → Shared → Prop) (E : Value → Shared → Prop), (∀ s₂ Z₂, Le Z Z₂ → StP p Z₂ (upd Fo c.L ρ₁) H₁ s₂ → RepV Z₂ (.obj C (fs.map (·.1)) (fs.map (·.2))) (.ref e) → P () s₂) → wpAny (M p) A (setFlight (.ref e) none) P E s₁) →
      codeAny (M p) (c.A.mark (some (.ref e))) (.handlers (.ref e) [.ExceptHandler none name (b₀ :: suite) hpos] c.env) (fun r s₂ => match r with
          | .ok f => (match name with
            | none => Qf f s₂
            | some n => wpAny (M p) c.A (do bindName c.env n .none; unbindBehindTheSuite c.env n hpos) (fun _ s₃ => Qf f s₃) E s₂)
          | .error x => cameBackBy (M p) c.A c.env E x s₂) s₁) :
    wpAny (M p) c.A (noteFrame u c.env) (fun _ s₂ => wpAny (M p) c.A (setFlight u none) (fun _ s₃ => wpAny (M p) c.A (handleBy u c.env (.ExceptHandler (some (.Name x np)) name (b₀ :: suite) hpos :: hs)) Qf E s₃) E s₂) E s := by
  obtain ⟨outer, L, hfr, hf⟩ := hT
  obtain ⟨Z', ρ', H', B, e, C', d, md, fs, rfl, hz, fl, hmd, rfl, hx⟩ := x₀
  have hmd' : md = none ∨ md = some .none ∨ md = some (rawInt L) := hmd.imp_right fun q => q.imp_right fun ⟨L', a, b⟩ => by rw [hf] at a; cases a; exact b
  rw [hfr] at fl ok
  refine fly_note (by show some c.fr = _; rw [hfr]) hf ok.upd hmd' fl fun s₁ fl₁ => ?_
  refine fly_setFlight fl₁ fun s₂ fl₂ => ?_
  obtain ⟨nm, q, N, bs, bm, hdct, sn, sub, ab, col, dd, k0, k1, k2, k3, k5, hK, Bx⟩ := XC.ok
  have st2 := fl₂.st.st
  refine wpAny_handleBy_cons (codeAny_handlers_test (clause_name F hg CC st2 ?_)) (by intro q; cases q)
  obtain ⟨vs, sl, he, -⟩ := fl₂.ex
  obtain ⟨hh, g, dr, tk, os⟩ := s₂
  refine wpAny_excMatches_sub_self (p.X.keeps st2.base _ _ hK) he rfl Bx.base ?_
  refine h e ρ' H' fs _ rfl hx fun A P E hP => ?_
  refine fly_setFlight fl₂ fun s₄ fl₄ => ?_
  obtain ⟨Z₄, z4, st4, r4⟩ := fl₄.land
  exact hP s₄ Z₄ (hz.trans z4) st4 r4

theorem K_TryAs (F : Fn p n c xs gs) {body : List Stmt} {x y nm : Str} {np yp n2 apos hpos : Pos} {C : Addr} (XC : XCls p C) (hg : x ∈ gs) (CC : Callee p x C)
    (h : SW p c ρ H (execs body c.env) (fun f ρ₁ H₁ => match f with | .next => SW p c ρ₁ H₁ (execs rest c.env) Q X | f => Q f ρ₁ H₁)
      (fun C' fs ρ₁ H₁ => C' = C ∧ ∃ vals vals', ρ₁ = loc xs vals ∧ Nv xs vals nm ∧ Sv xs vals y (.obj C (fs.map (·.1)) (fs.map (·.2))) vals' ∧ SW p c (loc xs vals') H₁ (execs rest c.env) Q X))
    (hyn : y ≠ nm := by decide) (hs : swapsWith (.Name nm n2) (some (.Name y yp)) apos.line c.env = pure false := by with_unfolding_all rfl) (hT : c.Top := by assumption) :
    SW p c ρ H (execs (.Try body [.ExceptHandler (some (.Name x np)) (some nm) [.Assign [.Name y yp] (.Name nm n2) apos] hpos] [] [] pos :: rest) c.env) Q X := by
  refine S_cons fun Z Fo s hn => wpAny_Try_except (wpAny_mono (h Z Fo s hn) (fun f s₁ ⟨Z₁, ρ₁, H₁, af, z1, st1, rf, h1⟩ => ?_) (fun u s₁ x₀ => ?_))
  · cases rf with
    | next => exact wpAny_execs_nil ⟨Z₁, ρ₁, H₁, .next, z1, st1, .next, h1⟩
    | brk => exact ⟨Z₁, ρ₁, H₁, _, z1, st1, .brk, h1⟩
    | cont => exact ⟨Z₁, ρ₁, H₁, _, z1, st1, .cont, h1⟩
    | ret r => exact ⟨Z₁, ρ₁, H₁, _, z1, st1, .ret r, h1⟩
  · refine caught_W F hT hn.fr XC hg CC x₀ fun e ρ₁ H₁ fs s₁ hu ⟨vals, vals', hρ, nv, sv, hrest⟩ fl => ?_
    subst hρ
    have nmk := F.loc nm nv.mem
    have yk := F.loc y sv.mem
    have hpf : (c.env.scope.kind == .class || (c.env.scope.kind == .module && c.env.locals != c.env.globals)) = false := by rw [F.kind]; rfl
    refine codeAny_handlers_suite_as (fl _ _ _ fun s₂ Z₂ z2 st2 r2 => ?_)
    obtain ⟨m, h1, h2⟩ := st2.fr _ _ (upd_same ..)
    refine wpAny_storeName_local nmk.1 h1 (fun h₃ ns₃ sb₃ => ?_) hpf
    refine wpAny_execs_cons (wpAny_Assign_Name (wpAny_Name (wpAny_loadName_local (v := .ref e) F.kind nmk.1 ns₃ (by simp) ?_) nmk.2) hs)
    refine wpAny_storeName_local yk.1 ns₃ (fun h₄ ns₄ sb₄ => ?_) hpf
    refine wpAny_execs_nil ?_
    refine wpAny_nameGoes_keeps nmk.1 ns₄ hpf fun h₅ v ns₅ sb₅ => ?_
    refine ⟨Z₂, loc xs vals', H₁, .next, z2, ?_, .next, hrest⟩
    have key := st2.loc (h' := h₅) (tk := s₂.toks + 1 + 1 + 1) (ρ' := loc xs vals') (upd_same ..) ((sb₃.trans sb₄).trans sb₅).extBut ns₅ (fun w v' e' => ?_)
    · rw [upd_upd] at key; exact key
    · rw [sv.lookup F.nd] at e'
      by_cases hw : w = nm
      · subst hw
        rw [if_neg (fun q => hyn q.symm), nv.lookup F.nd] at e'; cases e'
      · simp only [hw, if_false]
        by_cases hwy : w = y
        · subst hwy
          simp only [if_true] at e' ⊢
          cases e'; exact ⟨_, rfl, r2⟩
        · simp only [hwy, if_false] at e' ⊢
          exact h2 w v' e'

theorem K_TryRet (F : Fn p n c xs gs) {body : List Stmt} {x : Str} {np rp cp hpos : Pos} {kk : Nat} {b : Bool} {C : Addr} (XC : XCls p C) (hg : x ∈ gs) (CC : Callee p x C)
    (h : SW p c ρ H (execs body c.env) (fun f ρ₁ H₁ => match f with | .next => SW p c ρ₁ H₁ (execs rest c.env) Q X | f => Q f ρ₁ H₁)
      (fun C' fs ρ₁ H₁ => C' = C ∧ Q (.ret (.bool b)) ρ₁ H₁)) (hT : c.Top := by assumption) :
    SW p c ρ H (execs (.Try body [.ExceptHandler (some (.Name x np)) none [.Return (some (.Constant (.bool b) kk cp)) rp] hpos] [] [] pos :: rest) c.env) Q X := by
  refine S_cons fun Z Fo s hn => wpAny_Try_except (wpAny_mono (h Z Fo s hn) (fun f s₁ ⟨Z₁, ρ₁, H₁, af, z1, st1, rf, h1⟩ => ?_) (fun u s₁ x₀ => ?_))
  · cases rf with
    | next => exact wpAny_execs_nil ⟨Z₁, ρ₁, H₁, .next, z1, st1, .next, h1⟩
    | brk => exact ⟨Z₁, ρ₁, H₁, _, z1, st1, .brk, h1⟩
    | cont => exact ⟨Z₁, ρ₁, H₁, _, z1, st1, .cont, h1⟩
    | ret r => exact ⟨Z₁, ρ₁, H₁, _, z1, st1, .ret r, h1⟩
  · refine caught_W F hT hn.fr XC hg CC x₀ fun e ρ₁ H₁ fs s₁ hu hq fl => ?_
    refine codeAny_handlers_suite (fl _ _ _ fun s₂ Z₂ z2 st2 r2 => ?_)
    exact wpAny_execs_cons (wpAny_Return_some (wpAny_pure (a := Value.bool b) ⟨Z₂, ρ₁, H₁, _, z2, st2, .ret (.bool b), hq⟩))
end
end TextL20
section TextL21
open PySem PySem.W PyProof.Rows PySem.Calls PySem.MeetsSeq
section
variable {p : Pm} {n : Nat} {c : Cx} {ρ : LM} {H : HM} {X : XQ} {Q : V → HM → Prop} {Qb : Bool → HM → Prop} {Qu : LM → HM → Prop} {Z : GM} {Fo : FM} {s : Shared} {a b : Addr} {vs : List V}

theorem rng_get {f : Nat → V} {m i : Nat} {x : V} (h : ((List.range m).map f)[i]? = some x) : i < m ∧ x = f i := by
  have hi := (List.getElem?_eq_some_iff.mp h).1
  simp only [List.length_map, List.length_range] at hi
  refine ⟨hi, ?_⟩
  rw [List.getElem?_map, List.getElem?_range hi] at h
  exact (Option.some.inj h).symm
theorem rng_len {f : Nat → V} {m : Nat} : ((List.range m).map f).length = m := by simp
theorem I_rngN {R : List V → HM → Prop} {x y : Int} {m : Nat} (hy : y = x + m) (h : R ((List.range m).map fun (i : Nat) => .int (x + i)) H) : IterW p c (.rng x y 1) H R := by
  refine I_rng (n := m) (by subst hy; exact rs_one x m) ?_
  have : (fun (i : Nat) => V.int (x + i * 1)) = fun (i : Nat) => V.int (x + i) := by funext i; rw [Int.mul_one]
  rw [this]; exact h

structure LAt (p : Pm) (Z : GM) (s : Shared) (a : Addr) (vs : List V) (us : List Value) : Prop where
  is : s.heap.IsList a us.toArray
  rep : RepVs Z vs us
  nd : ∃ o, s.heap.get? a = some o ∧ o.dict = none
  at' : ∃ m, s.heap.get? a = some (listOf us.toArray m)
theorem lat (st : StP p Z Fo H s) (ha : H a = some (.list vs)) : ∃ us, LAt p Z s a vs us := by
  obtain ⟨us, m, h1, h2⟩ := st.own a _ ha
  exact ⟨us, ⟨_, h1, rfl, m, rfl⟩, h2, ⟨_, h1, rfl⟩, m, h1⟩
theorem latF (st : StP p Z Fo H s) (ha : H a = some (.flist vs)) : ∃ us, LAt p Z s a vs us := by
  obtain ⟨us, m, h1, _, h2⟩ := st.own a _ ha
  exact ⟨us, ⟨_, h1, rfl, m, rfl⟩, h2, ⟨_, h1, rfl⟩, m, h1⟩
theorem T_list (ha : H a = some (.list vs)) (hl : vs.length ≤ 16000000) (h : Qb (!vs.isEmpty) H) : B1 p c ρ H truthy (.ref a) Qb X := fun Z Fo s u hn r => by
  obtain ⟨us, L⟩ := lat hn.st ha
  cases r
  have := L.rep.1
  refine wpAny_truthy_list L.is (by simp; omega) ⟨Z, H, Le.refl _, hn.st.toks, ?_⟩
  have e : us.toArray.isEmpty = vs.isEmpty := by cases us <;> cases vs <;> simp at this ⊢
  rw [e]; exact h
theorem Os_len_list (ha : H a = some (.list vs)) (hl : vs.length ≤ 16000000) (h : Q (.int vs.length) H) : Os p c ρ H (fun us => call (.builtin "len") us) [.ref a] Q X := fun Z Fo s us hn r => by
  obtain ⟨u, us, rfl, r1, r⟩ := r.inv
  rw [r.inv_nil]
  obtain ⟨us, L⟩ := lat hn.st ha
  cases r1
  have := L.rep.1
  exact PyProof.Rows.len_list L.is (by simp; omega) (.mk' hn.st.toks (.int _ _) (by simpa [← this] using h))
theorem Os_len_flist (ha : H a = some (.flist vs)) (hl : vs.length ≤ 16000000) (h : Q (.int vs.length) H) : Os p c ρ H (fun us => call (.builtin "len") us) [.ref a] Q X := fun Z Fo s us hn r => by
  obtain ⟨u, us, rfl, r1, r⟩ := r.inv
  rw [r.inv_nil]
  obtain ⟨us, L⟩ := latF hn.st ha
  cases r1
  have := L.rep.1
  exact PyProof.Rows.len_list L.is (by simp; omega) (.mk' hn.st.toks (.int _ _) (by simpa [← this] using h))
theorem O_item_list {o i : Expr} {k : Int} {v : V} (ha : H a = some (.list vs)) (h0 : 0 ≤ k) (hbig : k < 2 ^ 63) (hv : vs[k.toNat]? = some v) (h : Q v H)
    (hs : ∀ x y, subscripted i false x y = operate [x, y] (getItem x y) := by intro _ _; with_unfolding_all rfl) : O2 p c ρ H (fun x y => subscriptTail o i x y) (.ref a) (.int k) Q X := fun Z Fo s u w hn r1 r2 => by
  obtain ⟨us, L⟩ := lat hn.st ha
  cases r1; cases r2
  obtain ⟨x, h1, h2⟩ := L.rep.get hv
  exact tail_any L.is.typeIs slot_list_getitem.lookup (wpAny_getItem_list L.is h0 hbig (by simpa using h1) (.mk' hn.st h2 h)) (hs _ _)
theorem O_item_flist {o i : Expr} {k : Int} {v : V} (ha : H a = some (.flist vs)) (h0 : 0 ≤ k) (hbig : k < 2 ^ 63) (hv : vs[k.toNat]? = some v) (h : Q v H)
    (hs : ∀ x y, subscripted i false x y = operate [x, y] (getItem x y) := by intro _ _; with_unfolding_all rfl) : O2 p c ρ H (fun x y => subscriptTail o i x y) (.ref a) (.int k) Q X := fun Z Fo s u w hn r1 r2 => by
  obtain ⟨us, L⟩ := latF hn.st ha
  cases r1; cases r2
  obtain ⟨x, h1, h2⟩ := L.rep.get hv
  exact tail_any L.is.typeIs slot_list_getitem.lookup (wpAny_getItem_list L.is h0 hbig (by simpa using h1) (.mk' hn.st h2 h)) (hs _ _)
theorem O_last_list {o i : Expr} {v : V} (ha : H a = some (.list vs)) (hv : vs.getLast? = some v) (h : Q v H)
    (hs : ∀ x y, subscripted i false x y = operate [x, y] (getItem x y) := by intro _ _; with_unfolding_all rfl) : O2 p c ρ H (fun x y => subscriptTail o i x y) (.ref a) (.int (-1)) Q X := fun Z Fo s u w hn r1 r2 => by
  obtain ⟨us, L⟩ := lat hn.st ha
  cases r1; cases r2
  rw [List.getLast?_eq_getElem?] at hv
  obtain ⟨x, h1, h2⟩ := L.rep.get hv
  have hlt := (List.getElem?_eq_some_iff.mp hv).1
  have := L.rep.1
  refine tail_any L.is.typeIs slot_list_getitem.lookup (wpAny_getItem_list_neg L.is (by decide) (by simp; omega) (by decide) ?_ (.mk' hn.st h2 h)) (hs _ _)
  rw [List.getElem?_toArray, ← h1]
  congr 1
  simp; omega
theorem G_append {Qm : Value → List V → HM → Prop} (ha : H a = some (.list vs)) (h : Qm (.builtin "list.append") [.ref a] H) : G1 p c ρ H "append" (.ref a) Qm X := fun Z Fo s u pl hn r => by
  obtain ⟨us, L⟩ := lat hn.st ha
  obtain ⟨o, e1, e2⟩ := L.nd
  cases r
  exact getMethod_builtin L.is.typeIs F.plainAttrs_list F.slot_list_append F.type_list_append (fun a' e => by cases e; exact ⟨o, e1, e2⟩) ⟨Z, H, [.ref a], Le.refl _, hn.st, .cons (.ref _) .nil, h⟩
theorem G_pop {Qm : Value → List V → HM → Prop} (ha : H a = some (.list vs)) (h : Qm (.builtin "list.pop") [.ref a] H) : G1 p c ρ H "pop" (.ref a) Qm X := fun Z Fo s u pl hn r => by
  obtain ⟨us, L⟩ := lat hn.st ha
  obtain ⟨o, e1, e2⟩ := L.nd
  cases r
  exact getMethod_builtin L.is.typeIs F.plainAttrs_list F.slot_list_pop F.type_list_pop (fun a' e => by cases e; exact ⟨o, e1, e2⟩) ⟨Z, H, [.ref a], Le.refl _, hn.st, .cons (.ref _) .nil, h⟩
theorem lput (hn : Now p c Z Fo ρ H s) (ha : H a = some (.list vs)) {us : List Value} {m : Nat} (h1 : s.heap.get? a = some (listOf us.toArray m)) {f : Array Value → Array Value} {us' : List Value} {vs' : List V} (hf : f us.toArray = us'.toArray) (r : RepVs Z vs' us') {tk : Tok} :
    StP p Z Fo (upd H a (.list vs')) { s with heap := s.heap.update a (Obj.mapSeq f), toks := tk } := by
  have e := IsL.update (h := s.heap) (l := a) h1 f
  rw [hf] at e
  exact hn.st.put ha (Heap.SameBut.update ..).extBut ⟨us', _, e, r⟩
theorem Os_append {v : V} (ha : H a = some (.list vs)) (hl : vs.length ≤ 16000000) (h : Q .none (upd H a (.list (vs ++ [v])))) : Os p c ρ H (fun us => call (.builtin "list.append") us) [.ref a, v] Q X := fun Z Fo s us hn r => by
  obtain ⟨u, us, rfl, r1, r⟩ := r.inv
  obtain ⟨x, us, rfl, r2, r⟩ := r.inv
  rw [r.inv_nil]
  obtain ⟨us, L⟩ := lat hn.st ha
  obtain ⟨m, h1⟩ := L.at'
  cases r1
  have := L.rep.1
  refine call_meets F.slot_list_append L.is.typeIs F.entry_list_append (F.args_list_append_2 _ _) (list_append a us.toArray m x (by rw [sizeLine_eq]; simp; omega)) ⟨h1, ?_⟩
  exact .mk' (lput hn ha h1 (us' := us ++ [x]) (by simp) (L.rep.append (.cons r2 .nil))) .none h
theorem Os_pop {v : V} (ha : H a = some (.list (vs ++ [v]))) (hl : vs.length ≤ 16000000) (h : Q v (upd H a (.list vs))) : Os p c ρ H (fun us => call (.builtin "list.pop") us) [.ref a] Q X := fun Z Fo s us hn r => by
  obtain ⟨u, us, rfl, r1, r⟩ := r.inv
  rw [r.inv_nil]
  obtain ⟨us, L⟩ := lat hn.st ha
  obtain ⟨m, h1⟩ := L.at'
  cases r1
  have hlen := L.rep.1
  simp only [List.length_append, List.length_cons, List.length_nil] at hlen
  obtain ⟨x, e1, e2⟩ := L.rep.get (i := vs.length) (v := v) (by simp)
  have hx := (List.getElem?_eq_some_iff.mp e1)
  obtain ⟨us₀, y, rfl⟩ : ∃ us₀ y, us = us₀ ++ [y] := by
    rcases List.eq_nil_or_concat us with rfl | ⟨us₀, y, e⟩
    · simp at hlen
    · exact ⟨us₀, y, by simpa using e⟩
  have hl0 : vs.length = us₀.length := by simpa using hlen
  have hxy : x = y := by rw [hl0] at e1; simpa using e1.symm
  subst hxy
  refine call_meets F.slot_list_pop L.is.typeIs F.entry_list_pop (F.args_list_pop_1 _) (list_pop_last a (us₀ ++ [x]).toArray m x (by simp) (by rw [sizeLine_eq]; simp; omega)) ⟨h1, ?_⟩
  refine .mk' (lput hn ha h1 (us' := us₀) ?_ ?_) e2 h
  · simp [Array.eraseIdxIfInBounds, List.eraseIdx_append_of_length_le]
  · refine ⟨hl0, fun i w z hw hz => L.rep.2 i w z ?_ ?_⟩
    · rw [List.getElem?_append_left (List.getElem?_eq_some_iff.mp hw).1]; exact hw
    · rw [List.getElem?_append_left (List.getElem?_eq_some_iff.mp hz).1]; exact hz
theorem Os_pop0 {v : V} (ha : H a = some (.list (v :: vs))) (hl : vs.length ≤ 16000000) (h : Q v (upd H a (.list vs))) : Os p c ρ H (fun us => call (.builtin "list.pop") us) [.ref a, .int 0] Q X := fun Z Fo s us hn r => by
  obtain ⟨u, us, rfl, r1, r⟩ := r.inv
  obtain ⟨x, us, rfl, r2, r⟩ := r.inv
  rw [r.inv_nil]
  obtain ⟨us, L⟩ := lat hn.st ha
  obtain ⟨m, h1⟩ := L.at'
  cases r1; cases r2
  obtain ⟨y, us, rfl, r3, r4⟩ := L.rep.inv
  have hlen := r4.1
  refine call_meets F.slot_list_pop L.is.typeIs F.entry_list_pop (F.args_list_pop_2 _ _) (list_pop_at a (y :: us).toArray m 0 _ 0 y (by decide) (by simp [seqIndex?]) (by simp) (by rw [sizeLine_eq]; simp; omega)) ⟨h1, ?_⟩
  exact .mk' (lput hn ha h1 (us' := us) (by simp [Array.eraseIdxIfInBounds]) r4) r3 h
theorem O_eqL0 (ha : H a = some (.list vs)) (hb : H b = some (.list [])) (h : Q (.bool vs.isEmpty) H) : O2 p c ρ H (compareOp .Eq) (.ref a) (.ref b) Q X := fun Z Fo s u w hn r1 r2 => by
  obtain ⟨us, L⟩ := lat hn.st ha
  obtain ⟨us2, L2⟩ := lat hn.st hb
  cases r1; cases r2
  have e2 := L2.rep.inv_nil
  subst e2
  have hu : c.A.units < cLine := by show 9000 - 10 * c.n < 9900; omega
  cases vs with
  | nil =>
    have e1 := L.rep.inv_nil
    subst e1
    exact SeqAt.eq_listAt (e := fun _ => true) L.is L2.is rfl hu (fun j h1 => absurd h1 (by simp)) (.mk' hn.st (.bool _) (by simpa using h))
  | cons v vs =>
    obtain ⟨y, us, rfl, -, -⟩ := L.rep.inv
    exact SeqAt.eq_list_lengthsAt L.is L2.is (by simp) hu (.mk' hn.st (.bool _) (by simpa using h))
theorem O_neL0 (ha : H a = some (.list vs)) (hb : H b = some (.list [])) (h : Q (.bool (!vs.isEmpty)) H) : O2 p c ρ H (compareOp .NotEq) (.ref a) (.ref b) Q X := fun Z Fo s u w hn r1 r2 => by
  obtain ⟨us, L⟩ := lat hn.st ha
  obtain ⟨us2, L2⟩ := lat hn.st hb
  cases r1; cases r2
  have e2 := L2.rep.inv_nil
  subst e2
  have hu : c.A.units < cLine := by show 9000 - 10 * c.n < 9900; omega
  cases vs with
  | nil =>
    have e1 := L.rep.inv_nil
    subst e1
    exact SeqAt.RcNeAt.lists (e := fun _ => true) L.is L2.is rfl hu (fun j h1 => absurd h1 (by simp)) _ _ _ _ (.mk' hn.st (.bool _) (by simpa using h))
  | cons v vs =>
    obtain ⟨y, us, rfl, -, -⟩ := L.rep.inv
    exact SeqAt.RcNeAt.lists_lengths L.is L2.is (by simp) hu _ _ _ _ (.mk' hn.st (.bool _) (by simpa using h))
theorem setNeg {prog : Program} {w : World} {A : Around} {E : Value → Shared → Prop} {l : Addr} {items : Array Value} {m : Nat} {k : Int} {t : Tok} {v : Value} {Q : Unit → Shared → Prop} (ho : s.heap.get? l = some (listOf items m)) (h0 : k < 0) (h1 : -(items.size : Int) ≤ k) (hfit : -(2 ^ 63) ≤ k)
    (hQ : Q () { s with heap := s.heap.update l (Obj.mapSeq (·.setIfInBounds (k + items.size).toNat v)) }) : wpAny (model prog w) A (setItem (.ref l) (.int k t) v) Q E s := by
  have hl : s.heap.IsList l items := ⟨_, ho, rfl, m, rfl⟩
  unfold setItem
  try with_reducible refine wpAny_holding ?_
  first | refine wpAny_bind (wpAny_pure ?_) | skip
  refine wpAny_bind (wpAny_sequenceKey hl.typeIs (by decide) ?_)
  refine wpAny_bind (wpAny_callSpecial?_slot (name := Str.ofString "__setitem__") hl.typeIs PySem.slot_list_setitem
    (wpAny_call_entry PySem.slot_list_setitem hl.typeIs PySem.entry_list_setitem ?_ (PySem.args_list_setitem _ _ _)))
  show wpAny _ _ (Builtin.List.listSubscript? (.int k t) >>= _) _ _ s
  refine wpAny_bind (wpAny_listSubscript_int (fitsIndex_neg h0 hfit) ?_)
  clear hfit
  have hidx := PySem.seqIndex_neg h0 h1
  obtain ⟨j, rfl⟩ : ∃ j : Nat, k = Int.negSucc j := by
    cases k with
    | ofNat n => exact absurd h0 (Int.not_lt.mpr (Int.natCast_nonneg n))
    | negSucc n => exact ⟨n, rfl⟩
  have hlt : (Int.negSucc j + (items.size : Int)).toNat < items.size := by omega
  show wpAny _ _ ((Builtin.List.listItems (.ref l) >>= fun xs => pure ((seqIndex? (Int.negSucc j) xs.size).bind fun i => xs[i]?.map (i, ·))) >>= _) _ _ s
  refine wpAny_bind (wpAny_bind ?_)
  show wpAny _ _ (seqItems? (.ref l) >>= _) _ _ s
  refine wpAny_bind (wpAny_seqItems ho rfl (wpAny_pure (wpAny_pure ?_)))
  rw [hidx]
  simp only [Option.bind_some, Array.getElem?_eq_getElem hlt, Option.map_some]
  show wpAny _ _ (setSeqItemAt l (Int.negSucc j + (items.size : Int)).toNat v >>= _) _ _ s
  refine wpAny_bind (wpAny_setSeqItemAt ho rfl ?_)
  first
    | exact wpAny_bind (wpAny_pure (wpAny_pure ⟨.none, rfl, wpAny_pure hQ⟩))
    | exact wpAny_pure ⟨.none, rfl, wpAny_pure hQ⟩
theorem U_set_list {k : Int} {v : V} (ha : H a = some (.list vs)) (h0 : 0 ≤ k) (hk : k < vs.length) (hl : vs.length ≤ 16000000) (h : Qu ρ (upd H a (.list (vs.set k.toNat v)))) : U3 p c ρ H setItem (.ref a) (.int k) v Qu X := fun Z Fo s u i x hn r1 r2 r3 => by
  obtain ⟨us, L⟩ := lat hn.st ha
  obtain ⟨m, h1⟩ := L.at'
  cases r1; cases r2
  have hlen := L.rep.1
  refine ki_setAt h1 h0 (by omega) (by simp; omega) ⟨Z, ρ, _, Le.refl _, ?_, h⟩
  rw [upd_self hn.lo]
  exact lput hn ha h1 (us' := us.set k.toNat x) (by apply Array.toList_inj.mp; simp) (L.rep.set r3 _)
theorem U_set_last {v v0 : V} (ha : H a = some (.list (vs ++ [v0]))) (hl : vs.length ≤ 16000000) (h : Qu ρ (upd H a (.list (vs ++ [v])))) : U3 p c ρ H setItem (.ref a) (.int (-1)) v Qu X := fun Z Fo s u i x hn r1 r2 r3 => by
  obtain ⟨us, L⟩ := lat hn.st ha
  obtain ⟨m, h1⟩ := L.at'
  cases r1; cases r2
  have hlen := L.rep.1
  simp only [List.length_append, List.length_cons, List.length_nil] at hlen
  refine setNeg h1 (by decide) (by simp; omega) (by decide) ⟨Z, ρ, _, Le.refl _, ?_, h⟩
  rw [upd_self hn.lo]
  have e : (-1 + ((us.toArray.size : Nat) : Int)).toNat = vs.length := by simp; omega
  rw [e]
  refine lput hn ha h1 (us' := us.set vs.length x) (by apply Array.toList_inj.mp; simp) ?_
  have := L.rep.set r3 vs.length
  have e2 : (vs ++ [v0]).set vs.length v = vs ++ [v] := by simp
  rw [e2] at this
  exact this
end
end TextL21
section TextL22
open PySem PySem.W PyProof.Rows PySem.Calls PySem.MeetsSeq
open PySem.Builtin PySem.Builtin._codecs in
theorem encode_tree2 (x : Str) (t u : Tok) : «str.encode» ⟨[.str x t, .str (Str.ofString "ascii") u], []⟩ = ((encodeNarrow "str.encode" asciiCodec none (.str x t) x >>= fun b => mkBytes b) >>= fun r => ret r) := by
  kernel_rfl
def ascB (x : Str) : Array UInt8 := x.cps.map (·.toUInt8)
theorem forIn_two {β : Type} {M : Model} {A : Around} {E : Value → Shared → Prop} {s : Shared} {Q : β → Shared → Prop} {n : Nat} {b0 : β} (b1 : β) {f : Nat → β → Sem (ForInStep β)} (h0 : n = 0 → Q b0 s) (h1 : 0 < n → f 0 b0 = pure (.yield b1)) (h2 : ∀ j, f j b1 = pure (.done b1)) (h3 : 0 < n → Q b1 s) :
    wpAny M A (forIn (List.range' 0 n) b0 f) Q E s := by
  cases n with
  | zero => exact wpAny_pure (h0 rfl)
  | succ n =>
    rw [List.range'_succ, List.forIn_cons, h1 (Nat.succ_pos _)]
    refine wpAny_bind (wpAny_pure ?_)
    cases n with
    | zero => exact wpAny_pure (h3 (Nat.succ_pos _))
    | succ n =>
      show wpAny M A (forIn (List.range' (0 + 1) (n + 1)) b1 f) Q E s
      rw [List.range'_succ, List.forIn_cons, h2]
      exact wpAny_bind (wpAny_pure (wpAny_pure (h3 (Nat.succ_pos _))))
theorem foldl_bytes : ∀ (l : List Nat) (acc : Array UInt8), l.foldl (fun acc y => acc ++ [y.toUInt8].toArray) acc = acc ++ (l.map (·.toUInt8)).toArray
  | [], acc => by simp
  | a :: l, acc => by rw [List.foldl_cons, foldl_bytes l]; simp
open PySem.Builtin PySem.Builtin._codecs in
theorem narrow_W {M : Model} {A : Around} {E : Value → Shared → Prop} {s : Shared} {Q : Array UInt8 → Shared → Prop} {x : Str} {v : Value} (hx : ∀ c ∈ x.cps.toList, c < 128) (hz : x.cps.size ≤ sizeLine) (h : Q (ascB x) s) : wpAny M A (encodeNarrow "str.encode" asciiCodec none v x) Q E s := by
  have hbad : ∀ c ∈ x.cps.toList, asciiCodec.bad c = false := fun c hc => by
    have := hx c hc
    show decide (c ≥ 128) = false
    exact decide_eq_false (by omega)
  have hfind : Array.findIdx? asciiCodec.bad x.cps = none := by
    rw [Array.findIdx?_eq_none_iff]
    exact fun c hc => hbad c (by simpa using hc)
  unfold encodeNarrow
  simp only [Std.Legacy.Range.forIn_eq_forIn_range', Std.Legacy.Range.size]
  rw [show (x.length - 0 + 1 - 1) / 1 = x.cps.size from by simp [Str.length]]
  refine wpAny_bind (forIn_two (x.cps.size, ascB x, {}) (fun h0 => ?_) (fun h0 => ?_) (fun j => ?_) (fun h0 => ?_))
  · have : x.cps = #[] := Array.eq_empty_of_size_eq_zero h0
    refine wpAny_pure ?_
    have e : ascB x = #[] := by simp [ascB, this]
    rw [e] at h; exact h
  · obtain ⟨c, hc⟩ : ∃ c, x.cps[0]? = some c := ⟨x.cps[0], Array.getElem?_eq_getElem h0⟩
    have hcb : asciiCodec.bad c = false := hbad c (by simpa using Array.mem_of_getElem? hc)
    dsimp only
    rw [if_neg (by simp), hc]
    dsimp only
    rw [hcb]
    simp only [Bool.not_false, if_true, Array.extract_size, hfind, Option.getD_none, Nat.zero_add]
    congr 4
    rw [← Array.foldl_toList]
    refine (foldl_bytes _ _).trans ?_
    rw [Array.empty_append, ascB, ← Array.toList_map, Array.toArray_toList]
  · dsimp only
    rw [if_neg (by simp [ascB]; omega), Array.getElem?_eq_none (Nat.le_refl _)]
  · exact wpAny_pure h
open PySem.Builtin in
theorem gives_encode {x : Str} {t u : Tok} (hx : ∀ c ∈ x.cps.toList, c < 128) (hz : x.cps.size ≤ 16777216) : Gives («str.encode» ⟨[.str x t, .str (Str.ofString "ascii") u], []⟩) (.bytes (ascB x)) := by
  refine .of_wp fun M A E s Q hq => ?_
  rw [encode_tree2]
  refine wpAny_bind (wpAny_bind (narrow_W hx (by rw [sizeLine_eq]; omega) (wpAny_mkBytes ?_ (by rw [sizeLine_eq]; simp [ascB]; omega))))
  exact wpAny_pure ⟨_, rfl, hq.2⟩
open PySem.Builtin PySem.Builtin.Bytes PySem.W.KBy in
theorem take_eq {id : String} {b : Array UInt8} {t : Tok} : takeBufferQuiet? id (.bytes b t) 0 = pure (some (b, none)) := by
  unfold takeBufferQuiet? takeBuffer?
  rw [special_eq look_buffer, own_buffer, show (0 == fullReadOnly : Bool) = false from by decide +kernel, buffer_eq]
  kernel_rfl
def bysOf : List Value → Option (List (Array UInt8))
  | [] => some []
  | .bytes b _ :: l => (bysOf l).map (b :: ·)
  | _ => none
open PySem.Builtin PySem.Builtin.Bytes in
theorem joinLetGo_W {M : Model} {A : Around} {E : Value → Shared → Prop} {s : Shared} {Q : Unit → Shared → Prop} {keep : List Value} (h : Q () s) : ∀ (l : List (Value × Option Value)), (∀ x ∈ l, x.2 = none) → wpAny M A (joinLetGo l keep) Q E s
  | [], _ => wpAny_pure h
  | (x, none) :: l, hl => by
    unfold joinLetGo
    exact wpAny_bind (wpAny_letGo (joinLetGo_W h l fun y hy => hl y (.tail _ hy)))
  | (x, some w) :: l, hl => by cases hl _ (.head _)
theorem bysOf_get : ∀ {us : List Value} {bs : List (Array UInt8)}, bysOf us = some bs → us.length = bs.length ∧ ∀ (i : Nat) b, bs[i]? = some b → ∃ t, us[i]? = some (.bytes b t)
  | [], _, h => by cases h; exact ⟨rfl, fun i b e => by simp at e⟩
  | .bytes b0 t :: l, bs, h => by
    simp only [bysOf, Option.map_eq_some_iff] at h
    obtain ⟨bs', h1, rfl⟩ := h
    have ih := bysOf_get h1
    refine ⟨by simp [ih.1], fun i b e => ?_⟩
    cases i with
    | zero => simp at e; subst e; exact ⟨t, rfl⟩
    | succ i => simp at e; simpa using ih.2 i b e
open PySem.Builtin PySem.Builtin.Bytes in
theorem join_W {prog : Program} {w : World} {A : Around} {E : Value → Shared → Prop} {s : Shared} {Q : Value → Shared → Prop} {a : Addr} {us : List Value} {b : Array UInt8} {t : Tok} {bs : List (Array UInt8)} (hl : s.heap.IsList a us.toArray) (hb : bysOf us = some bs)
    (hz : (joined b bs).size ≤ 16777216) (hz2 : bs.foldl (· + ·.size) (b.size * (bs.length - 1)) ≤ 16777216) (hq : ∀ t' k, Q (.bytes (joined b bs) t') { s with toks := k }) :
    wpAny (model prog w) A.in1 («bytes.join» ⟨[.bytes b t, .ref a], []⟩) (fun fin s' => ∃ v, fin = .done (.ret v) ∧ Q v s') E s := by
  obtain ⟨o, ho, hc, m, hd⟩ := id hl
  unfold «bytes.join» joinM
  refine wpAny_bind (wpAny_of_eq (a := (Value.bytes b t, Value.ref a)) rfl ?_)
  dsimp only
  refine wpAny_bind ?_
  show wpAny _ _ (joinItems (.ref a)) _ _ _
  unfold joinItems
  refine wpAny_bind (wpAny_typeOf hl.typeIs ?_)
  refine bm_if_true (by decide) (wpAny_pure ?_)
  refine wpAny_bind (wpAny_seqItems ho hd ?_)
  have key : wpAny (model prog w) A.in1 (do
      let mut parts : Array (Array UInt8) := #[]
      let mut taken : List (Value × Option Value) := []
      for i in [0:us.toArray.size] do
        let held := Value.ref a :: taken.flatMap fun (y, u) => y :: u.toList
        let some now ← seqItems? (.ref a) | unsupported s!"internal:{s!"{Kind.bytes.name}.join"}"
        let x := now.getD i .none
        if Kind.bytes == .bytearray || taken.any (·.1.onHeap) then
          match ← specialOf x "__buffer__" with
          | none | some (.builtin _) => pure ()
          | some _ => unsupported s!"{s!"{Kind.bytes.name}.join"}:buffer"
        let some (b, w) ← holding (x :: held) (takeBufferQuiet? s!"{Kind.bytes.name}.join" x 0)
          | rule s!"{s!"{Kind.bytes.name}.join"}.item-not-bytes-like"
            holding (x :: held.drop 1) point
            joinLetGo taken [x]
            raiseError "TypeError" s!"sequence item {i}: expected a bytes-like object, {← typeNameOf x} found"
        parts := parts.push b
        taken := taken ++ [(x, w)]
        let some after ← seqItems? (.ref a) | unsupported s!"internal:{s!"{Kind.bytes.name}.join"}"
        if after.size != us.toArray.size then
          rule s!"{s!"{Kind.bytes.name}.join"}.changed-size"
          joinLetGo taken []
          raiseError "RuntimeError" "sequence changed size during iteration"
      let sep ← payload (.bytes b t)
      if tooLong (parts.foldl (· + ·.size) (sep.size * (parts.size - 1))) then unsupported s!"{s!"{Kind.bytes.name}.join"}:memory"
      let result ← Kind.bytes.new (joined sep parts.toList)
      holding (result :: taken.flatMap fun (y, u) => y :: u.toList) point
      joinLetGo taken [result]
      ret result : Sem Fin) (fun fin s' => ∃ v, fin = .done (.ret v) ∧ Q v s') E s := by
    obtain ⟨hlen, hget⟩ := bysOf_get hb
    dsimp only
    rw [Std.Legacy.Range.forIn_eq_forIn_range']
    refine wpAny_bind (wpAny_mono (wpAny_forIn_list _ (fun l (st : Array (Array UInt8) × List (Value × Option Value)) s' => s' = s ∧ ∃ i, l = List.range' i (us.length - i) ∧ i ≤ us.length ∧ st.1.toList = bs.take i ∧ ∀ x ∈ st.2, x.2 = none ∧ x.1.onHeap = false)
      (fun st s' => s' = s ∧ st.1.toList = bs ∧ ∀ x ∈ st.2, x.2 = none) ?turn ?fin _ _ ⟨rfl, 0, by simp [Std.Legacy.Range.size], Nat.zero_le _, rfl, fun x hx => by cases hx⟩) (fun st s' hs => ?rest) fun _ _ e => e)
    case turn =>
      rintro x rest ⟨parts, taken⟩ s' ⟨rfl, i, hl', hi, hp, ht⟩
      have hlt : i < us.length := by
        rcases Nat.lt_or_ge i us.length with h | h
        · exact h
        · rw [Nat.sub_eq_zero_of_le h] at hl'; cases hl'
      rw [show us.length - i = (us.length - (i + 1)) + 1 by omega, List.range'_succ] at hl'
      injection hl' with hx hrest
      subst hx hrest
      obtain ⟨bi, hbi⟩ : ∃ bi, bs[x]? = some bi := ⟨bs[x]'(by omega), List.getElem?_eq_getElem (by omega)⟩
      obtain ⟨ti, hti⟩ := hget x bi hbi
      dsimp only at hp ht ⊢
      refine wpAny_bind (wpAny_seqItems ho hd ?_)
      dsimp only
      have hx : us.toArray.getD x Value.none = .bytes bi ti := by
        rw [Array.getD_eq_getD_getElem?, List.getElem?_toArray, hti]; rfl
      rw [hx]
      refine bm_if_false (by
        rw [Bool.or_eq_false_iff]
        exact ⟨by decide, List.any_eq_false.mpr fun y hy => by rw [(ht y hy).2]; decide⟩) ?_
      refine wpAny_bind (wpAny_holding (wpAny_of_eq take_eq ?_))
      dsimp only
      refine wpAny_bind (wpAny_seqItems ho hd ?_)
      dsimp only
      refine bm_if_false (by simp) (wpAny_pure ⟨rfl, x + 1, rfl, hlt, ?_, fun y hy => ?_⟩)
      · rw [Array.toList_push, hp, List.take_add_one, hbi]; rfl
      · rcases List.mem_append.mp hy with hy | hy
        · exact ht y hy
        · rw [List.mem_singleton] at hy; subst hy; exact ⟨rfl, rfl⟩
    case fin =>
      rintro ⟨parts, taken⟩ s' ⟨rfl, i, hl', hi, hp, ht⟩
      have hlt : i = us.length := by
        rcases Nat.lt_or_ge i us.length with h | h
        · rw [show us.length - i = (us.length - (i + 1)) + 1 by omega, List.range'_succ] at hl'; cases hl'
        · omega
      subst hlt
      refine ⟨rfl, ?_, fun x hx => (ht x hx).1⟩
      rw [hp, hlen, List.take_length]
    case rest =>
      obtain ⟨parts, taken⟩ := st
      obtain ⟨rfl, hp, ht⟩ := hs
      dsimp only at hp ht ⊢
      refine wpAny_bind (wpAny_of_eq (a := b) rfl ?_)
      have hp' : parts = bs.toArray := by rw [← hp]
      refine bm_if_false ?_ ?_
      · subst hp'
        refine PySem.W.KBy.tooLong_not ?_
        simpa using hz2
      · show wpAny _ _ (mkBytes _ >>= _) _ _ _
        rw [hp]
        refine wpAny_bind (wpAny_mkBytes ?_ (by rw [sizeLine_eq]; omega))
        refine wpAny_bind (wpAny_holding (wpAny_point ?_))
        exact wpAny_bind (joinLetGo_W (wpAny_pure ⟨_, rfl, hq _ _⟩) _ ht)
  rcases us with _ | ⟨x, _ | ⟨y, r⟩⟩
  · dsimp only
    refine bm_if_true (by decide) ?_
    exact key
  · dsimp only
    refine bm_if_true (by decide) ?_
    obtain ⟨hlen, hget⟩ := bysOf_get hb
    match bs, hlen with
    | [b0], _ =>
      obtain ⟨t0, ht0⟩ := hget 0 b0 rfl
      simp at ht0
      subst ht0
      refine wpAny_bind (wpAny_typeOf (typeIs_bytes _ _ _) (bm_if_true (by decide) (wpAny_bind (wpAny_rule (wpAny_pure ⟨_, rfl, ?_⟩)))))
      have e : joined b [b0] = b0 := by simp [joined]
      have := hq t0 s.toks
      rw [e] at this
      exact this
  · dsimp only
    refine bm_if_true (by decide) ?_
    exact key
theorem slot_bjoin : Slot "bytes" "join" "bytes.join" :=
  .of (owner := "bytes") (n := "join") (by rw [typeLookup_type, builtinLookup_eq_fast]; kernel_rfl) (by decide +kernel) (by decide +kernel) (by decide +kernel)
    (by first | exact .inl (by decide +kernel) | exact .inr (by decide +kernel)) (by rw [isSubtype_type]; kernel_rfl)
theorem type_bjoin : typeOf (.builtin "bytes.join") = pure (.type "method_descriptor") := by show builtinType _ = _; rw [builtinType_eq_fast]; kernel_rfl
theorem entry_bjoin : entryFor table "bytes.join" = some Builtin.«bytes.join» := entryFor_of_tree (by kernel_rfl)
theorem args_bjoin (a b : Value) : argsOk "bytes.join" ⟨[a, b], []⟩ := by
  unfold argsOk; rw [signature?_of (id := "bytes.join") (n := ['n', 'i', 'o', 'j']) (o := ['s', 'e', 't', 'y', 'b']) (by kernel_rfl) FB.owner_bytes]; kernel_rfl
theorem call_join {prog : Program} {w : World} {A : Around} {E : Value → Shared → Prop} {s : Shared} {Q : Value → Shared → Prop} {a : Addr} {us : List Value} {b : Array UInt8} {t : Tok} {bs : List (Array UInt8)} (hl : s.heap.IsList a us.toArray) (hb : bysOf us = some bs)
    (hz : (Builtin.Bytes.joined b bs).size ≤ 16777216) (hz2 : bs.foldl (· + ·.size) (b.size * (bs.length - 1)) ≤ 16777216) (hq : ∀ t' k, Q (.bytes (Builtin.Bytes.joined b bs) t') { s with toks := k }) :
    wpAny (model prog w) A (call (.builtin "bytes.join") [.bytes b t, .ref a]) Q E s :=
  wpAny_call_entry slot_bjoin (typeIs_bytes _ _ _) entry_bjoin (join_W hl hb hz hz2 hq) (args_bjoin _ _)
end TextL22
section TextP1
def byt (l : List UInt8) (k : Nat) : Int := ((l.getD k 0).toNat : Int)
def pk (l : List UInt8) (k : Nat) : Int := if k < l.length then byt l k else -1
def isFig (i : Int) : Bool := decide (48 ≤ i ∧ i ≤ 57)
def isReg (i : Int) : Bool := decide (0 ≤ i ∧ i ∉ [(0 : Int), 9, 10, 12, 13, 32] ∧ i ∉ [(40 : Int), 41, 60, 62, 91, 93, 123, 125, 47, 37])
def isAt (l : List UInt8) (k : Nat) (w : List UInt8) : Bool := (l.drop k).take w.length == w
def cm (l : List UInt8) (k : Nat) : Nat := if k < l.length then (if byt l k = 10 ∨ byt l k = 13 then k else cm l (k + 1)) else k
termination_by l.length - k
theorem cm_ge (l : List UInt8) (k : Nat) : k ≤ cm l k := by
  fun_induction cm l k <;> omega
theorem cm_le (l : List UInt8) (k : Nat) (h : k ≤ l.length) : cm l k ≤ l.length := by
  fun_induction cm l k <;> omega
def ws (l : List UInt8) (k : Nat) : Nat := if k < l.length then (if byt l k = 37 then ws l (cm l (k + 1)) else if byt l k ∈ [(0 : Int), 9, 10, 12, 13, 32] then ws l (k + 1) else k) else k
termination_by l.length - k
decreasing_by
  · have := cm_ge l (k + 1); omega
  · omega
theorem ws_ge (l : List UInt8) (k : Nat) : k ≤ ws l k := by
  fun_induction ws l k
  · have := cm_ge l (‹Nat› + 1); omega
  all_goals omega
theorem ws_le (l : List UInt8) (k : Nat) (h : k ≤ l.length) : ws l k ≤ l.length := by
  fun_induction ws l k
  · rename_i ih; exact ih (cm_le l _ (by omega))
  · rename_i ih; exact ih (by omega)
  all_goals omega
def rg (l : List UInt8) (k : Nat) : Nat := if k < l.length then (if isReg (byt l k) = true then rg l (k + 1) else k) else k
termination_by l.length - k
theorem rg_le (l : List UInt8) (k : Nat) (h : k ≤ l.length) : rg l k ≤ l.length := by
  fun_induction rg l k <;> omega
def le1 (l : List UInt8) (k : Nat) : Bool := decide (pk l k = 13 ∨ pk l k = 10)
def le2 (l : List UInt8) (k : Nat) : Nat := if pk l k = 13 then (if pk l (k + 1) = 10 then k + 2 else k + 1) else if pk l k = 10 then k + 1 else k
def fg (l : List UInt8) (k : Nat) : Nat := if k < l.length then (if isFig (byt l k) = true then fg l (k + 1) else k) else k
termination_by l.length - k
theorem fg_ge (l : List UInt8) (k : Nat) : k ≤ fg l k := by
  fun_induction fg l k <;> omega
theorem fg_le (l : List UInt8) (k : Nat) (h : k ≤ l.length) : fg l k ≤ l.length := by
  fun_induction fg l k <;> omega
def dv (cs : List UInt8) (acc : Int) : Int := cs.foldl (fun (t : Int) (x : UInt8) => 10 * t + (x.toNat : Int) - 48) acc
theorem take_one (l : List UInt8) {k j : Nat} (h1 : k ≤ j) (h2 : j < l.length) : (l.drop k).take (j + 1 - k) = (l.drop k).take (j - k) ++ [l.getD j 0] := by
  have e : j + 1 - k = (j - k) + 1 := by omega
  rw [e, List.take_add_one]
  congr 1
  rw [List.getElem?_drop, show k + (j - k) = j by omega, List.getElem?_eq_getElem h2, List.getD_eq_getElem?_getD, List.getElem?_eq_getElem h2]
  rfl
theorem dv_one (l : List UInt8) {k j : Nat} (h1 : k ≤ j) (h2 : j < l.length) : dv ((l.drop k).take (j + 1 - k)) 0 = 10 * dv ((l.drop k).take (j - k)) 0 + byt l j - 48 := by
  rw [take_one l h1 h2]; simp [dv, byt]
theorem fig_pk {l : List UInt8} {k : Nat} (h : isFig (pk l k) = true) : k < l.length ∧ pk l k = byt l k := by
  unfold pk at h ⊢
  by_cases hk : k < l.length
  · simp [hk]
  · simp [hk, isFig] at h
theorem fg_no {l : List UInt8} {k : Nat} (h : isFig (pk l k) = false) : fg l k = k := by
  rw [fg]
  unfold pk at h
  by_cases hk : k < l.length
  · simp [hk] at h; simp [hk, h]
  · simp [hk]
theorem fg_yes {l : List UInt8} {k : Nat} (h : isFig (pk l k) = true) : fg l k = fg l (k + 1) := by
  obtain ⟨h1, h2⟩ := fig_pk h
  rw [h2] at h
  conv => lhs; rw [fg]
  simp [h1, h]
def fh (l : List UInt8) (k : Nat) : Nat → Nat
  | 0 => 0
  | m + 1 => if isFig (pk l k) = true then fh l (k + 1) m + 1 else 0
theorem fh_le (l : List UInt8) : ∀ (m k : Nat), fh l k m ≤ m
  | 0, k => Nat.le_refl _
  | m + 1, k => by unfold fh; split; have := fh_le l m (k + 1); omega; omega

abbrev Ent := Bool × Int × Int
abbrev Tab := List (Int × Ent)
def eoE (l : List UInt8) (k : Nat) : Option Nat := if isAt l k [32, 13] = true ∨ isAt l k [32, 10] = true ∨ isAt l k [13, 10] = true then some (k + 2) else if le1 l k = true then some (le2 l k) else none
def entR (l : List UInt8) (k : Nat) : Except Nat (Ent × Nat) :=
  if fh l k 10 < 10 then .error (k + fh l k 10)
  else if pk l (k + 10) ≠ 32 then .error (k + 10)
  else if fh l (k + 11) 5 < 5 then .error (k + 11 + fh l (k + 11) 5)
  else if 65535 < dv ((l.drop (k + 11)).take 5) 0 then .error (k + 11)
  else if pk l (k + 16) ≠ 32 then .error (k + 16)
  else if pk l (k + 17) ≠ 110 ∧ pk l (k + 17) ≠ 102 then .error (k + 17)
  else match eoE l (k + 18) with
    | none => .error (k + 18)
    | some j => .ok ((decide (pk l (k + 17) = 110), dv ((l.drop k).take 10) 0, dv ((l.drop (k + 11)).take 5) 0), j)
def has (T : Tab) (n : Int) : Bool := T.any fun e => decide (e.1 = n)
def subR (l : List UInt8) : Nat → Int → Tab → Nat → Except Nat (Tab × Nat)
  | 0, _, T, k => .ok (T, k)
  | m + 1, n, T, k => if has T n = true then .error k else if l.length ≤ k then .error k else match entR l k with
    | .error j => .error j
    | .ok (e, k') => subR l m (n + 1) (T ++ [(n, e)]) k'
def cntR (l : List UInt8) (k : Nat) : Except Nat (Int × Nat) := if fg l k = k ∨ 20 < fg l k - k then .error k else .ok (dv ((l.drop k).take (fg l k - k)) 0, fg l k)
def secR (lim : Nat → Nat) (l : List UInt8) (T : Tab) (k : Nat) : Except Nat (Tab × Nat) :=
  match cntR l k with
  | .error j => .error j
  | .ok (a, k1) => match cntR l (ws l k1) with
    | .error j => .error j
    | .ok (b, k2) => subR l (lim b.toNat) a T (ws l k2)
def tabR (lim : Nat → Nat) (l : List UInt8) : Nat → Tab → Nat → Except Nat (Tab × Nat)
  | 0, _, k => .error k
  | m + 1, T, k => if isFig (pk l k) = true then match secR lim l T k with
      | .error j => .error j
      | .ok (T', k') => tabR lim l m T' (ws l k')
    else if isAt l k [116, 114, 97, 105, 108, 101, 114] = true then .ok (T, k) else .error k
def readR (lim : Nat → Nat) (l : List UInt8) : Except Nat (Tab × Nat) :=
  if isAt l (ws l 0) [120, 114, 101, 102] = true then tabR lim l (l.length + 1) [] (ws l (ws l 0 + 4)) else .error (ws l 0)

theorem fh_lt {l : List UInt8} : ∀ {m k : Nat}, fh l k m = m → k ≤ l.length → k + m ≤ l.length
  | 0, k, _, hk => hk
  | m + 1, k, h, hk => by
    unfold fh at h
    split at h
    · rename_i hf
      have := fh_lt (m := m) (k := k + 1) (by omega) (fig_pk hf).1
      omega
    · omega
theorem pk_lt {l : List UInt8} {k : Nat} {i : Int} (h : pk l k = i) (hi : 0 ≤ i) : k < l.length := by
  unfold pk at h
  split at h
  · assumption
  · omega
theorem isAt_le {l w : List UInt8} {k : Nat} (h : isAt l k w = true) (hw : w ≠ []) : k + w.length ≤ l.length := by
  unfold isAt at h
  have := congrArg List.length (eq_of_beq h)
  simp at this
  have : 0 < w.length := List.length_pos_iff.mpr hw
  omega
theorem eoE_gt {l : List UInt8} {k j : Nat} (h : eoE l k = some j) : k < j ∧ j ≤ l.length := by
  unfold eoE at h
  split at h
  · rename_i hc
    cases h
    rcases hc with hc | hc | hc <;> have := isAt_le hc (by simp) <;> simp at this <;> omega
  · split at h
    · rename_i hc hl
      cases h
      simp only [le1, decide_eq_true_eq] at hl
      unfold le2
      rcases hl with hl | hl
      · have h1 := pk_lt hl (by omega)
        rw [if_pos hl]
        split
        · rename_i h2
          have := pk_lt h2 (by omega); omega
        · omega
      · have h1 := pk_lt hl (by omega)
        have h2 : ¬ pk l k = 13 := by omega
        rw [if_neg h2, if_pos hl]; omega
    · cases h
theorem entR_gt {l : List UInt8} {k j : Nat} {e : Ent} (h : entR l k = .ok (e, j)) : k + 19 ≤ j ∧ j ≤ l.length := by
  unfold entR at h
  repeat (split at h; cases h)
  rename_i h1
  cases h
  have := eoE_gt h1; omega
theorem subR_gt {l : List UInt8} : ∀ {m : Nat} {n : Int} {T T' : Tab} {k k' : Nat}, subR l m n T k = .ok (T', k') → k ≤ l.length → k + 19 * m ≤ k' ∧ k' ≤ l.length
  | 0, n, T, T', k, k', h, hk => by simp only [subR] at h; cases h; omega
  | m + 1, n, T, T', k, k', h, hk => by
    simp only [subR] at h
    split at h
    · cases h
    · split at h
      · cases h
      · split at h
        · cases h
        · rename_i e j he
          have h1 := entR_gt he
          have h2 := subR_gt h h1.2
          omega
theorem subR_more {l : List UInt8} : ∀ {m m' : Nat} {n : Int} {T : Tab} {k : Nat}, m ≤ m' → (∀ T' k', subR l m n T k ≠ .ok (T', k')) → subR l m' n T k = subR l m n T k
  | 0, m', n, T, k, _, h => absurd rfl (h T k)
  | m + 1, 0, n, T, k, hm, _ => by omega
  | m + 1, m' + 1, n, T, k, hm, h => by
    simp only [subR] at h ⊢
    split
    · rfl
    · split
      · rfl
      · split
        · rfl
        · rename_i e j he
          refine subR_more (by omega) fun T' k' q => ?_
          refine h T' k' ?_
          rw [if_neg (by assumption), if_neg (by assumption), he]; exact q
theorem subR_lim {l : List UInt8} (hl : l.length < 950) (m : Nat) (n : Int) (T : Tab) (k : Nat) (hk : k ≤ l.length) : subR l m n T k = subR l (min m 50) n T k := by
  by_cases h : m ≤ 50
  · rw [Nat.min_eq_left h]
  · rw [Nat.min_eq_right (by omega)]
    refine subR_more (by omega) fun T' k' q => ?_
    have := subR_gt q hk
    omega
theorem cntR_ge {l : List UInt8} {k j : Nat} {a : Int} (h : cntR l k = .ok (a, j)) (hk : k ≤ l.length) : k < j ∧ j ≤ l.length := by
  unfold cntR at h
  split at h
  · cases h
  · cases h
    have := fg_ge l k
    have := fg_le l k hk
    omega
theorem secR_ge {lim : Nat → Nat} {l : List UInt8} {T T' : Tab} {k j : Nat} (h : secR lim l T k = .ok (T', j)) (hk : k ≤ l.length) : k < j ∧ j ≤ l.length := by
  unfold secR at h
  split at h
  · cases h
  · rename_i a k1 h1
    have g1 := cntR_ge h1 hk
    have g2 := ws_ge l k1
    have g3 := ws_le l k1 g1.2
    split at h
    · cases h
    · rename_i b k2 h2
      have g4 := cntR_ge h2 g3
      have g5 := ws_ge l k2
      have g6 := ws_le l k2 g4.2
      have := subR_gt h g6
      omega
theorem secR_lim {l : List UInt8} (hl : l.length < 950) (T : Tab) (k : Nat) (hk : k ≤ l.length) : secR id l T k = secR (min · 50) l T k := by
  unfold secR
  split
  · rfl
  · rename_i a k1 h1
    have g1 := cntR_ge h1 hk
    have g3 := ws_le l k1 g1.2
    split
    · rfl
    · rename_i b k2 h2
      have g4 := cntR_ge h2 g3
      exact subR_lim hl _ _ _ _ (ws_le l k2 g4.2)
theorem tabR_lim {l : List UInt8} (hl : l.length < 950) : ∀ (m : Nat) (T : Tab) (k : Nat), k ≤ l.length → tabR id l m T k = tabR (min · 50) l m T k
  | 0, T, k, _ => rfl
  | m + 1, T, k, hk => by
    simp only [tabR]
    rw [secR_lim hl T k hk]
    split
    · split
      · rfl
      · rename_i T' k' h
        exact tabR_lim hl m T' _ (ws_le l k' (secR_ge h hk).2)
    · rfl
theorem readR_lim {l : List UInt8} (hl : l.length < 950) : readR id l = readR (min · 50) l := by
  unfold readR
  split
  · rename_i h
    have := isAt_le h (by simp)
    exact tabR_lim hl _ _ _ (ws_le _ _ this)
  · rfl
end TextP1
section TextP2
theorem byt_sh (a b : List UInt8) (j : Nat) : byt (a ++ b) (a.length + j) = byt b j := by
  simp only [byt, List.getD_eq_getElem?_getD, List.getElem?_append_right (Nat.le_add_right _ _)]; rw [Nat.add_sub_cancel_left]
theorem pk_sh (a b : List UInt8) (j : Nat) : pk (a ++ b) (a.length + j) = pk b j := by
  simp only [pk, byt_sh, List.length_append, Nat.add_lt_add_iff_left]
theorem pk_sh0 (a b : List UInt8) : pk (a ++ b) a.length = pk b 0 := pk_sh a b 0
theorem isAt_sh (a b w : List UInt8) (j : Nat) : isAt (a ++ b) (a.length + j) w = isAt b j w := by
  simp only [isAt, List.drop_length_add_append]
theorem cut_sh (a b : List UInt8) (j m : Nat) : ((a ++ b).drop (a.length + j)).take m = (b.drop j).take m := by
  rw [List.drop_length_add_append]
theorem fh_sh (a b : List UInt8) : ∀ (m j : Nat), fh (a ++ b) (a.length + j) m = fh b j m
  | 0, j => rfl
  | m + 1, j => by simp only [fh, pk_sh, Nat.add_assoc, fh_sh a b m (j + 1)]
theorem cm_sh (a b : List UInt8) (j : Nat) : cm (a ++ b) (a.length + j) = a.length + cm b j := by
  fun_induction cm b j
  · rename_i j h1 h2
    rw [cm, if_pos (by simp; exact h1), byt_sh, if_pos h2]
  · rename_i j h1 h2 ih
    rw [cm, if_pos (by simp; exact h1), byt_sh, if_neg h2, Nat.add_assoc, ih]
  · rename_i j h1
    rw [cm, if_neg (by simp; omega)]
theorem ws_sh (a b : List UInt8) (j : Nat) : ws (a ++ b) (a.length + j) = a.length + ws b j := by
  fun_induction ws b j
  · rename_i j h1 h2 ih
    rw [ws, if_pos (by simp; exact h1), byt_sh, if_pos h2, Nat.add_assoc, cm_sh, ih]
  · rename_i j h1 h2 h3 ih
    rw [ws, if_pos (by simp; exact h1), byt_sh, if_neg h2, if_pos h3, Nat.add_assoc, ih]
  · rename_i j h1 h2 h3
    rw [ws, if_pos (by simp; exact h1), byt_sh, if_neg h2, if_neg h3]
  · rename_i j h1
    rw [ws, if_neg (by simp; omega)]
theorem rg_sh (a b : List UInt8) (j : Nat) : rg (a ++ b) (a.length + j) = a.length + rg b j := by
  fun_induction rg b j
  · rename_i j h1 h2 ih
    rw [rg, if_pos (by simp; exact h1), byt_sh, if_pos h2, Nat.add_assoc, ih]
  · rename_i j h1 h2
    rw [rg, if_pos (by simp; exact h1), byt_sh, if_neg h2]
  · rename_i j h1
    rw [rg, if_neg (by simp; omega)]
theorem fg_sh (a b : List UInt8) (j : Nat) : fg (a ++ b) (a.length + j) = a.length + fg b j := by
  fun_induction fg b j
  · rename_i j h1 h2 ih
    rw [fg, if_pos (by simp; exact h1), byt_sh, if_pos h2, Nat.add_assoc, ih]
  · rename_i j h1 h2
    rw [fg, if_pos (by simp; exact h1), byt_sh, if_neg h2]
  · rename_i j h1
    rw [fg, if_neg (by simp; omega)]
theorem le1_sh (a b : List UInt8) (j : Nat) : le1 (a ++ b) (a.length + j) = le1 b j := by simp only [le1, pk_sh]
theorem le2_sh (a b : List UInt8) (j : Nat) : le2 (a ++ b) (a.length + j) = a.length + le2 b j := by
  simp only [le2, Nat.add_assoc, pk_sh]
  split
  · split <;> rfl
  · split <;> rfl
def shE {α : Type} (n : Nat) : Except Nat (α × Nat) → Except Nat (α × Nat)
  | .error k => .error (n + k)
  | .ok (a, k) => .ok (a, n + k)
theorem eoE_sh (a b : List UInt8) (j : Nat) : eoE (a ++ b) (a.length + j) = (eoE b j).map (a.length + ·) := by
  simp only [eoE, isAt_sh, le1_sh, le2_sh]
  split
  · rfl
  · split <;> rfl
theorem entR_sh (a b : List UInt8) (j : Nat) : entR (a ++ b) (a.length + j) = shE a.length (entR b j) := by
  simp only [entR, Nat.add_assoc, fh_sh, pk_sh, cut_sh, eoE_sh]
  repeat (split; rfl)
  cases eoE b (j + 18) <;> rfl
theorem subR_sh (a b : List UInt8) : ∀ (m : Nat) (n : Int) (T : Tab) (j : Nat), subR (a ++ b) m n T (a.length + j) = shE a.length (subR b m n T j)
  | 0, n, T, j => rfl
  | m + 1, n, T, j => by
    simp only [subR, entR_sh, List.length_append, Nat.add_le_add_iff_left]
    split
    · rfl
    · split
      · rfl
      · cases entR b j with
        | error k => rfl
        | ok r => exact subR_sh a b m (n + 1) _ r.2
theorem cntR_sh (a b : List UInt8) (j : Nat) : cntR (a ++ b) (a.length + j) = shE a.length (cntR b j) := by
  simp only [cntR, fg_sh, cut_sh, Nat.add_right_inj, Nat.add_sub_add_left]
  split <;> rfl
theorem secR_sh (lim : Nat → Nat) (a b : List UInt8) (T : Tab) (j : Nat) : secR lim (a ++ b) T (a.length + j) = shE a.length (secR lim b T j) := by
  simp only [secR, cntR_sh]
  cases cntR b j with
  | error k => rfl
  | ok r =>
    simp only [shE, ws_sh, cntR_sh]
    cases cntR b (ws b r.2) with
    | error k => rfl
    | ok r2 => simp only [shE, ws_sh, subR_sh]
theorem tabR_sh (lim : Nat → Nat) (a b : List UInt8) : ∀ (m : Nat) (T : Tab) (j : Nat), tabR lim (a ++ b) m T (a.length + j) = shE a.length (tabR lim b m T j)
  | 0, T, j => rfl
  | m + 1, T, j => by
    simp only [tabR, pk_sh, secR_sh, isAt_sh]
    split
    · cases secR lim b T j with
      | error k => rfl
      | ok r => simp only [shE, ws_sh]; exact tabR_sh lim a b m _ _
    · split <;> rfl

def digN (n : Nat) : List Nat := (Nat.toDigits 10 n).map Char.toNat
def digB (n : Nat) : List UInt8 := (digN n).map UInt8.ofNat
def padB (n m : Nat) : List UInt8 := List.replicate (m - (digN n).length) 48 ++ digB n
def Figs (l : List UInt8) : Prop := ∀ x ∈ l, 48 ≤ x.toNat ∧ x.toNat ≤ 57
theorem isDigit_le {c : Char} (h : c.isDigit = true) : 48 ≤ c.toNat ∧ c.toNat ≤ 57 := by
  unfold Char.isDigit at h
  simp only [Bool.and_eq_true, decide_eq_true_eq, ge_iff_le] at h
  exact ⟨h.1, h.2⟩
theorem digN_mem {n x : Nat} (h : x ∈ digN n) : 48 ≤ x ∧ x ≤ 57 := by
  obtain ⟨c, h1, rfl⟩ := List.mem_map.mp h
  exact isDigit_le (Nat.isDigit_of_mem_toDigits (by decide) (by decide) h1)
theorem digB_figs (n : Nat) : Figs (digB n) := fun x h => by
  obtain ⟨y, h1, rfl⟩ := List.mem_map.mp h
  have := digN_mem h1
  rw [show (UInt8.ofNat y).toNat = y from by simp; omega]; exact this
theorem digN_len_pos (n : Nat) : 0 < (digN n).length := by
  unfold digN; rw [List.length_map]; exact Nat.length_toDigits_pos
theorem digN_len {n k : Nat} (hk : 0 < k) (h : n < 10 ^ k) : (digN n).length ≤ k := by
  unfold digN; rw [List.length_map]; exact (Nat.length_toDigits_le_iff (by decide) hk).mpr h
theorem padB_figs (n m : Nat) : Figs (padB n m) := fun x h => by
  rcases List.mem_append.mp h with h | h
  · rw [(List.mem_replicate.mp h).2]; decide
  · exact digB_figs n x h
theorem padB_len {n m : Nat} (hm : 0 < m) (h : n < 10 ^ m) : (padB n m).length = m := by
  have := digN_len hm h
  simp [padB, digB]; omega
theorem dv_app (a b : List UInt8) (acc : Int) : dv (a ++ b) acc = dv b (dv a acc) := List.foldl_append
theorem dv_zero : ∀ m : Nat, dv (List.replicate m 48) 0 = 0
  | 0 => rfl
  | m + 1 => by rw [List.replicate_succ]; exact dv_zero m
theorem dv_chars : ∀ (cs : List Char) (acc : Nat), (∀ c ∈ cs, c.isDigit = true) → dv ((cs.map Char.toNat).map UInt8.ofNat) (acc : Int) = ((Nat.ofDigitChars 10 cs acc : Nat) : Int)
  | [], acc, _ => rfl
  | c :: cs, acc, h => by
    have h1 := isDigit_le (h c (.head _))
    have ih := dv_chars cs (10 * acc + (c.toNat - '0'.toNat)) fun x hx => h x (.tail _ hx)
    rw [Nat.ofDigitChars_cons, ← ih]
    simp only [List.map_cons, dv, List.foldl_cons]
    congr 1
    have : '0'.toNat = 48 := rfl
    rw [show (UInt8.ofNat c.toNat).toNat = c.toNat from by simp; omega]
    omega
theorem dv_digB (n : Nat) : dv (digB n) 0 = (n : Int) := by
  have := dv_chars (Nat.toDigits 10 n) 0 fun c hc => Nat.isDigit_of_mem_toDigits (by decide) (by decide) hc
  rw [Nat.ofDigitChars_ten_toDigits] at this
  exact this
theorem dv_padB (n m : Nat) : dv (padB n m) 0 = (n : Int) := by rw [padB, dv_app, dv_zero, dv_digB]

theorem pk_cons (x : UInt8) (b : List UInt8) : pk (x :: b) 0 = (x.toNat : Int) := by simp [pk, byt]
theorem pk_succ (x : UInt8) (b : List UInt8) (j : Nat) : pk (x :: b) (j + 1) = pk b j := by
  have := pk_sh [x] b j
  rwa [show [x].length + j = j + 1 from by simp; omega] at this
theorem fh_figs : ∀ {d : List UInt8} (b : List UInt8), Figs d → fh (d ++ b) 0 d.length = d.length
  | [], b, _ => rfl
  | x :: d, b, h => by
    have h1 := h x (.head _)
    have ih := fh_figs (d := d) b fun y hy => h y (.tail _ hy)
    have hs := fh_sh [x] (d ++ b) d.length 0
    simp only [List.length_cons, List.length_nil, Nat.zero_add, List.cons_append, List.nil_append, Nat.add_zero] at hs
    simp only [List.length_cons, List.cons_append, fh, pk_cons, Nat.zero_add, hs, ih]
    rw [if_pos]
    simp only [isFig, decide_eq_true_eq]; omega
theorem fg_figs : ∀ {d : List UInt8} (b : List UInt8), Figs d → isFig (pk b 0) = false → fg (d ++ b) 0 = d.length
  | [], b, _, hb => fg_no hb
  | x :: d, b, h, hb => by
    have h1 := h x (.head _)
    have ih := fg_figs (d := d) b (fun y hy => h y (.tail _ hy)) hb
    have hs := fg_sh [x] (d ++ b) 0
    simp only [List.length_cons, List.length_nil, Nat.zero_add, List.cons_append, List.nil_append, Nat.add_zero] at hs
    have hf : isFig (pk (x :: (d ++ b)) 0) = true := by simp only [pk_cons, isFig, decide_eq_true_eq]; omega
    show fg (x :: (d ++ b)) 0 = _
    rw [fg_yes hf, Nat.zero_add, hs, ih, List.length_cons]; omega
theorem ws_stay {b : List UInt8} (h : 48 ≤ pk b 0) : ws b 0 = 0 := by
  rw [ws]
  have h1 : 0 < b.length := pk_lt rfl (by omega)
  have h2 : pk b 0 = byt b 0 := by simp [pk, h1]
  rw [h2] at h
  rw [if_pos h1, if_neg (by omega), if_neg]
  simp; omega
theorem ws_one {x : UInt8} {b : List UInt8} (hx : x = 32 ∨ x = 10 ∨ x = 13 ∨ x = 9) : ws (x :: b) 0 = 1 + ws b 0 := by
  have hs := ws_sh [x] b 0
  simp only [List.length_cons, List.length_nil, Nat.zero_add, List.cons_append, List.nil_append, Nat.add_zero] at hs
  have hb : byt (x :: b) 0 = x.toNat := by simp [byt]
  rw [ws, if_pos (by simp), hb]
  rcases hx with rfl | rfl | rfl | rfl <;> simp [hs]

def IsEnd (E : List UInt8) : Prop := E = [13, 10] ∨ E = [32, 13] ∨ E = [10] ∨ E = [32, 10] ∨ E = [13]
theorem eoE_end {E b : List UInt8} (hE : IsEnd E) (hb : 48 ≤ pk b 0) : eoE (E ++ b) 0 = some E.length := by
  obtain ⟨x, b', rfl⟩ : ∃ x b', b = x :: b' := by
    cases b with
    | nil => simp [pk] at hb
    | cons x b' => exact ⟨x, b', rfl⟩
  have hx : (48 : Int) ≤ x.toNat := by rwa [pk_cons] at hb
  have hx10 : x ≠ 10 := fun q => by subst q; simp at hx
  have hx13 : x ≠ 13 := fun q => by subst q; simp at hx
  rcases hE with rfl | rfl | rfl | rfl | rfl
  · simp [eoE, isAt]
  · simp [eoE, isAt]
  · simp [eoE, isAt, le1, le2, pk, byt]
  · simp [eoE, isAt]
  · have hx10' : ¬ ((x.toNat : Int) = 10) := by omega
    simp [eoE, isAt, le1, le2, pk, byt, hx10]
    omega
def entB (e : Bool × Nat × Nat) : List UInt8 := padB e.2.1 10 ++ [32] ++ padB e.2.2 5 ++ [32, if e.1 = true then 110 else 102]
def entV (e : Bool × Nat × Nat) : Ent := (e.1, (e.2.1 : Int), (e.2.2 : Int))
def EntOk (e : Bool × Nat × Nat) : Prop := e.2.1 < 10 ^ 10 ∧ e.2.2 ≤ 65535
theorem entB_len {e : Bool × Nat × Nat} (h : EntOk e) : (entB e).length = 18 := by
  have h1 := padB_len (n := e.2.1) (m := 10) (by decide) h.1
  have h2 := padB_len (n := e.2.2) (m := 5) (by decide) (by have := h.2; omega)
  simp [entB, h1, h2]
theorem entR_line {e : Bool × Nat × Nat} {E b : List UInt8} (he : EntOk e) (hE : IsEnd E) (hb : 48 ≤ pk b 0) : entR (entB e ++ E ++ b) 0 = .ok (entV e, 18 + E.length) := by
  obtain ⟨u, one, two⟩ := e
  obtain ⟨h1, h2⟩ := he
  dsimp only at h1 h2
  have l1 := padB_len (n := one) (m := 10) (by decide) h1
  have l2 := padB_len (n := two) (m := 5) (by decide) (by omega)
  have e1 : entB (u, one, two) ++ E ++ b = padB one 10 ++ (32 :: (padB two 5 ++ (32 :: (if u = true then 110 else 102) :: (E ++ b)))) := by simp [entB]
  have k10 : ∀ j, pk (padB one 10 ++ (32 :: (padB two 5 ++ (32 :: (if u = true then 110 else 102) :: (E ++ b))))) (10 + j) = pk (32 :: (padB two 5 ++ (32 :: (if u = true then 110 else 102) :: (E ++ b)))) j := fun j => by
    have := pk_sh (padB one 10) (32 :: (padB two 5 ++ (32 :: (if u = true then 110 else 102) :: (E ++ b)))) j
    rwa [l1] at this
  have k11 : ∀ j, pk (32 :: (padB two 5 ++ (32 :: (if u = true then 110 else 102) :: (E ++ b)))) (1 + 5 + j) = pk (32 :: (if u = true then 110 else 102) :: (E ++ b)) j := fun j => by
    have := pk_sh (32 :: padB two 5) (32 :: (if u = true then 110 else 102) :: (E ++ b)) j
    rwa [show (32 :: padB two 5 : List UInt8).length = 1 + 5 by simp [l2]] at this
  have f1 := fh_figs (32 :: (padB two 5 ++ (32 :: (if u = true then 110 else 102) :: (E ++ b)))) (padB_figs one 10)
  rw [l1] at f1
  have f2 := fh_sh (padB one 10 ++ [32]) (padB two 5 ++ (32 :: (if u = true then 110 else 102) :: (E ++ b))) 5 0
  have f2' := fh_figs (32 :: (if u = true then 110 else 102) :: (E ++ b)) (padB_figs two 5)
  rw [l2] at f2'
  rw [show (padB one 10 ++ [32] : List UInt8).length = 11 by simp [l1], f2', List.append_assoc] at f2
  have v1 : ((padB one 10 ++ (32 :: (padB two 5 ++ (32 :: (if u = true then 110 else 102) :: (E ++ b))))).drop 0).take 10 = padB one 10 := by
    rw [List.drop_zero, List.take_left' l1]
  have v2 : ((padB one 10 ++ (32 :: (padB two 5 ++ (32 :: (if u = true then 110 else 102) :: (E ++ b))))).drop 11).take 5 = padB two 5 := by
    have := cut_sh (padB one 10 ++ [32]) (padB two 5 ++ (32 :: (if u = true then 110 else 102) :: (E ++ b))) 0 5
    rw [show (padB one 10 ++ [32] : List UInt8).length = 11 by simp [l1], List.append_assoc] at this
    refine this.trans ?_
    rw [List.drop_zero, List.take_left' l2]
  have ee := eoE_sh (padB one 10 ++ (32 :: (padB two 5 ++ [32, if u = true then 110 else 102]))) (E ++ b) 0
  rw [show (padB one 10 ++ (32 :: (padB two 5 ++ [32, if u = true then 110 else 102])) : List UInt8).length = 18 by simp [l1, l2], eoE_end hE hb] at ee
  simp only [List.append_assoc, List.cons_append, List.nil_append] at ee
  have d2 := dv_padB two 5
  have c16 := k10 (1 + 5 + 0)
  have c17 := k10 (1 + 5 + 1)
  have c10 := k10 0
  rw [k11] at c16 c17
  rw [pk_cons] at c10 c16
  rw [show (1 : Nat) = 0 + 1 from rfl, pk_succ, pk_cons] at c17
  simp only [Nat.add_zero, Nat.reduceAdd, List.cons_append, List.nil_append] at c10 c16 c17 f2
  rw [e1, entR]
  simp only [Nat.zero_add, f1, f2, c10, c16, c17, v1, v2, d2, dv_padB]
  rw [if_neg (by omega), if_neg (by simp), if_neg (by omega), if_neg (by omega), if_neg (by simp), if_neg (by cases u <;> simp)]
  simp only [Nat.add_zero] at ee
  rw [ee]
  cases u <;> simp [entV]
end TextP2
section TextP3
abbrev EntN := Bool × Nat × Nat
abbrev Sec := Nat × List EntN
def linesB (ends : Nat → List UInt8) : Nat → List EntN → List UInt8
  | _, [] => []
  | t, e :: es => entB e ++ ends t ++ linesB ends (t + 1) es
def secB (ends : Nat → List UInt8) (t : Nat) (s : Sec) : List UInt8 := digB s.1 ++ [32] ++ digB s.2.length ++ [10] ++ linesB ends t s.2
def secsB (ends : Nat → List UInt8) : Nat → List Sec → List UInt8
  | _, [] => []
  | t, s :: r => secB ends t s ++ secsB ends (t + s.2.length) r
def runT : Nat → List EntN → Tab
  | _, [] => []
  | n, e :: es => ((n : Int), entV e) :: runT (n + 1) es
def flatT : List Sec → Tab
  | [] => []
  | s :: r => runT s.1 s.2 ++ flatT r
def SecsOk : Nat → List Sec → Prop
  | _, [] => True
  | lo, s :: r => lo ≤ s.1 ∧ s.2 ≠ [] ∧ (∀ e ∈ s.2, EntOk e) ∧ s.1 < 10 ^ 20 ∧ s.2.length ≤ 50 ∧ SecsOk (s.1 + s.2.length + 1) r
def Below (T : Tab) (n : Nat) : Prop := ∀ e ∈ T, e.1 < (n : Int)
theorem Below.has {T : Tab} {n : Nat} (h : Below T n) : has T (n : Int) = false := by
  unfold Mine.has
  rw [List.any_eq_false]
  intro e he
  have := h e he
  simp; omega
theorem runT_below : ∀ {es : List EntN} {n : Nat}, Below (runT n es) (n + es.length)
  | [], n, e, he => by cases he
  | e :: es, n, x, hx => by
    rcases List.mem_cons.mp hx with rfl | hx
    · simp; omega
    · have := runT_below (es := es) (n := n + 1) x hx
      simp at this ⊢; omega
theorem Below.app {T T' : Tab} {n : Nat} (h : Below T n) (h' : Below T' n) : Below (T ++ T') n := fun e he => by
  rcases List.mem_append.mp he with he | he
  · exact h e he
  · exact h' e he
theorem Below.mono {T : Tab} {n m : Nat} (h : Below T n) (hm : n ≤ m) : Below T m := fun e he => by have := h e he; omega
theorem pk_app {a b : List UInt8} (h : 0 < a.length) : pk (a ++ b) 0 = pk a 0 := by
  cases a with
  | nil => cases h
  | cons x a => rw [List.cons_append, pk_cons, pk_cons]
theorem figs_pk {d : List UInt8} (h : Figs d) (h0 : 0 < d.length) : 48 ≤ pk d 0 ∧ isFig (pk d 0) = true := by
  cases d with
  | nil => cases h0
  | cons x d =>
    have := h x (.head _)
    rw [pk_cons]
    refine ⟨by omega, ?_⟩
    simp only [isFig, decide_eq_true_eq]; omega
theorem digB_len_pos (n : Nat) : 0 < (digB n).length := by
  unfold digB; rw [List.length_map]; exact digN_len_pos n
theorem entB_pk {e : EntN} (he : EntOk e) : 48 ≤ pk (entB e) 0 := by
  have l1 := padB_len (n := e.2.1) (m := 10) (by decide) he.1
  unfold entB
  rw [List.append_assoc, List.append_assoc, pk_app (by omega)]
  exact (figs_pk (padB_figs _ _) (by omega)).1
theorem linesB_pk {ends : Nat → List UInt8} {es : List EntN} {t : Nat} {b : List UInt8} (h : ∀ e ∈ es, EntOk e) (hb : 48 ≤ pk b 0) : 48 ≤ pk (linesB ends t es ++ b) 0 := by
  cases es with
  | nil => exact hb
  | cons e es =>
    unfold linesB
    have := h e (.head _)
    rw [List.append_assoc, List.append_assoc, pk_app (by rw [entB_len this]; decide)]
    exact entB_pk this
theorem subR_lines {ends : Nat → List UInt8} (hE : ∀ t, IsEnd (ends t)) : ∀ {es : List EntN} {t n : Nat} {T : Tab} {b : List UInt8}, (∀ e ∈ es, EntOk e) → 48 ≤ pk b 0 → Below T n →
    subR (linesB ends t es ++ b) es.length (n : Int) T 0 = .ok (T ++ runT n es, (linesB ends t es).length)
  | [], t, n, T, b, _, _, _ => by simp [subR, linesB, runT]
  | e :: es, t, n, T, b, h, hb, hT => by
    have he := h e (.head _)
    have h' : ∀ e ∈ es, EntOk e := fun x hx => h x (.tail _ hx)
    have ih := subR_lines hE (es := es) (t := t + 1) (n := n + 1) (T := T ++ [((n : Int), entV e)]) (b := b) h' hb ((hT.mono (Nat.le_succ n)).app (fun x hx => by
      rcases List.mem_cons.mp hx with rfl | hx
      · dsimp only; omega
      · cases hx))
    have hl := entB_len he
    rw [List.length_cons, subR, if_neg (by rw [hT.has]; decide), if_neg (by simp [linesB, hl]), linesB, List.append_assoc,
      entR_line he (hE t) (linesB_pk h' hb)]
    have hs := subR_sh (entB e ++ ends t) (linesB ends (t + 1) es ++ b) es.length ((n + 1 : Nat) : Int) (T ++ [((n : Int), entV e)]) 0
    rw [ih, List.length_append, hl] at hs
    dsimp only
    refine hs.trans ?_
    simp [shE, runT, hl]; omega
theorem cntR_dig {n : Nat} (h : n < 10 ^ 20) {x : UInt8} {b : List UInt8} (hx : isFig x.toNat = false) : cntR (digB n ++ x :: b) 0 = .ok ((n : Int), (digB n).length) := by
  have h1 := fg_figs (x :: b) (digB_figs n) (by rw [pk_cons]; exact hx)
  have h2 := digB_len_pos n
  have h3 : (digB n).length ≤ 20 := by unfold digB; rw [List.length_map]; exact digN_len (by decide) h
  unfold cntR
  rw [h1, if_neg (by omega), List.drop_zero, Nat.sub_zero, List.take_left' rfl, dv_digB]
theorem secR_sec {lim : Nat → Nat} (hlim : ∀ n, n ≤ 50 → lim n = n) {ends : Nat → List UInt8} (hE : ∀ t, IsEnd (ends t)) {t : Nat} {s : Sec} {T : Tab} {b : List UInt8} (he : ∀ e ∈ s.2, EntOk e) (h1 : s.1 < 10 ^ 20) (h2 : s.2.length ≤ 50) (hb : 48 ≤ pk b 0) (hT : Below T s.1) :
    secR lim (secB ends t s ++ b) T 0 = .ok (T ++ runT s.1 s.2, (secB ends t s).length) := by
  obtain ⟨n, es⟩ := s
  dsimp only at he h1 h2 hT
  have c1 := cntR_dig h1 (x := 32) (b := digB es.length ++ ([10] ++ (linesB ends t es ++ b))) (by decide)
  have c2 := cntR_dig (n := es.length) (by omega) (x := 10) (b := linesB ends t es ++ b) (by decide)
  have e0 : secB ends t (n, es) ++ b = digB n ++ 32 :: (digB es.length ++ ([10] ++ (linesB ends t es ++ b))) := by simp [secB]
  have w1 : ws (digB es.length ++ 10 :: (linesB ends t es ++ b)) 0 = 0 := by
    apply ws_stay
    rw [pk_app (digB_len_pos _)]
    exact (figs_pk (digB_figs _) (digB_len_pos _)).1
  have w2 : ws (linesB ends t es ++ b) 0 = 0 := ws_stay (linesB_pk he hb)
  have w3 := ws_sh (digB n) (32 :: (digB es.length ++ 10 :: (linesB ends t es ++ b))) 0
  rw [ws_one (.inl rfl), w1] at w3
  have c3 := cntR_sh (digB n ++ [32]) (digB es.length ++ 10 :: (linesB ends t es ++ b)) 0
  rw [c2] at c3
  have w4 := ws_sh (digB n ++ [32] ++ digB es.length) (10 :: (linesB ends t es ++ b)) 0
  rw [ws_one (.inr (.inl rfl)), w2] at w4
  have s1 := subR_sh (digB n ++ [32] ++ digB es.length ++ [10]) (linesB ends t es ++ b) es.length (n : Int) T 0
  rw [subR_lines hE he hb hT] at s1
  simp only [List.append_assoc, List.cons_append, List.nil_append, List.length_append, List.length_cons, List.length_nil, Nat.add_zero, Nat.zero_add] at c1 w3 c3 w4 s1
  rw [e0]
  simp only [secR, List.cons_append, List.nil_append, c1, w3, c3, shE]
  rw [show (digB n).length + 1 + (digB es.length).length = (digB n).length + ((digB es.length).length + 1) by omega, w4]
  simp only [Int.toNat_natCast, hlim _ h2]
  rw [show (digB n).length + ((digB es.length).length + 1) + 1 = (digB n).length + ((digB es.length).length + 1 + 1) by omega, s1]
  simp [shE, secB]; omega
theorem flatT_below : ∀ {r : List Sec} {lo : Nat}, SecsOk lo r → ∀ e ∈ flatT r, (lo : Int) ≤ e.1
  | [], lo, _, e, he => by cases he
  | s :: r, lo, h, e, he => by
    obtain ⟨h1, h2, h3, h4, h5, h6⟩ := h
    rcases List.mem_append.mp he with he | he
    · have : ∀ {es : List EntN} {n : Nat}, ∀ e ∈ runT n es, (n : Int) ≤ e.1 := by
        intro es
        induction es with
        | nil => intro n e he; cases he
        | cons x es ih =>
          intro n e he
          rcases List.mem_cons.mp he with rfl | he
          · simp
          · have := ih e he; omega
      have := this e he; omega
    · have := flatT_below h6 e he; omega
theorem secsB_pk {ends : Nat → List UInt8} {r : List Sec} {t : Nat} {b : List UInt8} (hb : 48 ≤ pk b 0) : 48 ≤ pk (secsB ends t r ++ b) 0 := by
  cases r with
  | nil => exact hb
  | cons s r =>
    unfold secsB secB
    simp only [List.append_assoc]
    rw [pk_app (digB_len_pos _)]
    exact (figs_pk (digB_figs _) (digB_len_pos _)).1
def trw : List UInt8 := [116, 114, 97, 105, 108, 101, 114]
theorem tabR_secs {lim : Nat → Nat} (hlim : ∀ n, n ≤ 50 → lim n = n) {ends : Nat → List UInt8} (hE : ∀ t, IsEnd (ends t)) : ∀ {r : List Sec} {m t lo : Nat} {T : Tab} {b : List UInt8}, SecsOk lo r → Below T lo → r.length < m →
    tabR lim (secsB ends t r ++ (trw ++ b)) m T 0 = .ok (T ++ flatT r, (secsB ends t r).length)
  | [], 0, t, lo, T, b, _, _, hm => by cases hm
  | [], m + 1, t, lo, T, b, _, _, hm => by simp [tabR, secsB, flatT, trw, pk_cons, isFig, isAt]
  | s :: r, 0, t, lo, T, b, _, _, hm => by cases hm
  | s :: r, m + 1, t, lo, T, b, h, hT, hm => by
    obtain ⟨h1, h2, h3, h4, h5, h6⟩ := h
    have hb : 48 ≤ pk (secsB ends (t + s.2.length) r ++ (trw ++ b)) 0 := secsB_pk (by simp [trw, pk_cons])
    have ih := tabR_secs hlim hE (r := r) (m := m) (t := t + s.2.length) (lo := s.1 + s.2.length + 1) (T := T ++ runT s.1 s.2) (b := b) h6
      (((hT.mono h1).mono (by omega)).app (runT_below.mono (by omega))) (by simp at hm; omega)
    have hs := secR_sec hlim hE (t := t) (T := T) h3 h4 h5 hb (hT.mono h1)
    have w := ws_sh (secB ends t s) (secsB ends (t + s.2.length) r ++ (trw ++ b)) 0
    rw [ws_stay hb] at w
    have hq := tabR_sh lim (secB ends t s) (secsB ends (t + s.2.length) r ++ (trw ++ b)) m (T ++ runT s.1 s.2) 0
    rw [ih] at hq
    simp only [Nat.add_zero] at w hq
    have hf : isFig (pk (secB ends t s ++ (secsB ends (t + s.2.length) r ++ (trw ++ b))) 0) = true := by
      unfold secB
      simp only [List.append_assoc]
      rw [pk_app (digB_len_pos _)]
      exact (figs_pk (digB_figs _) (digB_len_pos _)).2
    rw [secsB, List.append_assoc, tabR, if_pos hf, hs]
    dsimp only
    rw [w, hq]
    simp [shE, flatT]
def xrw : List UInt8 := [120, 114, 101, 102]
theorem readR_octets {lim : Nat → Nat} (hlim : ∀ n, n ≤ 50 → lim n = n) {ends : Nat → List UInt8} (hE : ∀ t, IsEnd (ends t)) {r : List Sec} {pre b : List UInt8} (h : SecsOk 0 r) (hp : ∀ c, ws (pre ++ (xrw ++ c)) 0 = pre.length) :
    readR lim (pre ++ (xrw ++ [10] ++ (secsB ends 0 r ++ (trw ++ b)))) = .ok (flatT r, pre.length + 5 + (secsB ends 0 r).length) := by
  have e0 : pre ++ (xrw ++ [10] ++ (secsB ends 0 r ++ (trw ++ b))) = pre ++ (xrw ++ 10 :: (secsB ends 0 r ++ (trw ++ b))) := by simp
  have hb : 48 ≤ pk (secsB ends 0 r ++ (trw ++ b)) 0 := secsB_pk (by simp [trw, pk_cons])
  have w0 := hp (10 :: (secsB ends 0 r ++ (trw ++ b)))
  have a0 := isAt_sh pre (xrw ++ 10 :: (secsB ends 0 r ++ (trw ++ b))) [120, 114, 101, 102] 0
  have w1 := ws_sh (pre ++ xrw) (10 :: (secsB ends 0 r ++ (trw ++ b))) 0
  rw [ws_one (.inr (.inl rfl)), ws_stay hb] at w1
  have t1 := tabR_sh lim (pre ++ xrw ++ [10]) (secsB ends 0 r ++ (trw ++ b)) ((pre ++ (xrw ++ 10 :: (secsB ends 0 r ++ (trw ++ b)))).length + 1) [] 0
  rw [tabR_secs hlim hE h (fun e he => by cases he) (by
    have : ∀ (r : List Sec) (t : Nat), r.length ≤ (secsB ends t r).length := by
      intro r
      induction r with
      | nil => intro t; exact Nat.le_refl _
      | cons s r ih => intro t; have := ih (t + s.2.length); have := digB_len_pos s.1; simp [secsB, secB]; omega
    have := this r 0
    simp; omega)] at t1
  simp only [Nat.add_zero, List.append_assoc, List.cons_append, List.nil_append, List.length_append, List.length_cons, List.length_nil] at a0 w1 t1
  have hx : xrw.length = 4 := rfl
  rw [e0, readR, w0, a0, if_pos (by simp [isAt, xrw]), show pre.length + 4 = pre.length + xrw.length by rw [hx]]
  rw [w1]
  simp only [hx, Nat.zero_add, List.length_append, List.length_cons] at t1 ⊢
  rw [show pre.length + 4 + 1 = pre.length + (4 + 1) by omega, t1]
  simp [shE]
end TextP3
section TextL23
open PySem PySem.W PyProof.Rows PySem.Calls PySem.MeetsSeq
def tx (l : List Nat) : Str := ⟨l.toArray⟩
theorem tx_add (a b : List Nat) : tx a ++ tx b = tx (a ++ b) := by
  show (⟨_⟩ : Str) = ⟨_⟩
  simp [tx]
theorem tx_len (a : List Nat) : (tx a).length = a.length := by simp [tx, Str.length]
theorem tx_of (x : Str) : x = tx x.cps.toList := by cases x; simp [tx]
theorem tx_cps (a : List Nat) : (tx a).cps.toList = a := by simp [tx]
theorem tx_inj {a b : List Nat} (h : tx a = tx b) : a = b := by rw [← tx_cps a, h, tx_cps]
section
variable {p : Pm} {n : Nat} {c : Cx} {ρ : LM} {H : HM} {X : XQ} {Q : V → HM → Prop} {Qb : Bool → HM → Prop} {Qu : LM → HM → Prop} {Z : GM} {Fo : FM} {s : Shared} {a b : Addr} {vs : List V} {x y : List Nat}

theorem O_addS (hz : x.length + y.length ≤ 16777216) (h : Q (.str (tx (x ++ y))) H) : O2 p c ρ H (binaryOp .Add) (.str (tx x)) (.str (tx y)) Q X := fun Z Fo s u v hn r1 r2 => by
  cases r1; cases r2
  refine PyProof.Rows.add_str (fun t' tk => .mk' hn.st.toks (.str _ _) ?_) (by rw [tx_len, tx_len, sizeLine_eq]; omega)
  rw [tx_add]; exact h
theorem O_addB {x y : List UInt8} (hz : x.length + y.length ≤ 16777216) (h : Q (.bytes (x ++ y)) H) : O2 p c ρ H (binaryOp .Add) (.bytes x) (.bytes y) Q X := fun Z Fo s u v hn r1 r2 => by
  cases r1; cases r2
  refine PySem.W.KBy.add_bytes (by simpa using hz) fun t' k => .mk' hn.st.toks ?_ h
  rw [List.append_toArray]; exact .bytes _ _
theorem reps_fold (k : Nat) : ∀ (n : Nat) (acc : Array Nat), (List.replicate n #[k]).foldl (· ++ ·) acc = acc ++ (List.replicate n k).toArray
  | 0, acc => by simp
  | n + 1, acc => by
    rw [List.replicate_succ, List.foldl_cons, reps_fold k n, List.replicate_succ]
    apply Array.toList_inj.mp
    simp
theorem mul_one_sign (k n : Nat) : Txt.mul (tx [k]) (n : Int) = tx (List.replicate n k) := by
  unfold Txt.mul
  by_cases h : (n : Int) < 1
  · have : n = 0 := by omega
    subst this
    rw [if_pos h]; rfl
  · rw [if_neg h]
    by_cases h1 : n = 1
    · subst h1; rfl
    · rw [if_neg (by simp [tx_len]; omega)]
      show (⟨_⟩ : Str) = ⟨_⟩
      rw [Int.toNat_natCast]
      have := reps_fold k n #[]
      rw [Array.empty_append] at this
      exact congrArg _ this
theorem O_mulS {k : Nat} {m : Nat} (hm : m ≤ 1000000) (h : Q (.str (tx (List.replicate m k))) H) : O2 p c ρ H (binaryOp .Mult) (.str (tx [k])) (.int (m : Int)) Q X := fun Z Fo s u v hn r1 r2 => by
  cases r1; cases r2
  refine SB.mul ⟨?_, ?_, ?_⟩ fun t' k' => .mk' hn.st.toks (.str _ _) ?_
  · rw [Bool.or_eq_false_iff, decide_eq_false_iff_not, decide_eq_false_iff_not]; omega
  · intro h1 _
    rw [tx_len]
    have : (1 : Int) ≤ (2 ^ 63 - 1) / (m : Int) := by
      rw [Int.le_ediv_iff_mul_le (by omega)]; omega
    simp only [List.length_cons, List.length_nil]; omega
  · intro h1 _
    rw [tx_len, Int.toNat_natCast]
    show decide (_ > sizeLine) = false
    rw [decide_eq_false_iff_not, sizeLine_eq]
    simp only [List.length_cons, List.length_nil]; omega
  · rw [mul_one_sign]; exact h
def digT (i : Int) : List Nat := (Str.ofString (toString i)).cps.toList
theorem digT_nat (m : Nat) : digT (m : Int) = digN m := PySem.W.KIN.signs_num m
theorem Os_str_int {i : Int} (hi : i.natAbs.log2 < 1920) (h : Q (.str (tx (digT i))) H) : Os p c ρ H (fun us => call (.type "str") us) [.int i] Q X := fun Z Fo s us hn r => by
  obtain ⟨u, us, rfl, r1, r⟩ := r.inv
  rw [r.inv_nil]
  cases r1
  refine PySem.P.str_of_int hi (.mk' hn.st.toks (.str _ _) ?_)
  rw [show (tx (digT i)) = (toString i : Str) from (tx_of _).symm] at h
  exact h
theorem Os_len_str (hz : x.length ≤ 16777216) (h : Q (.int x.length) H) : Os p c ρ H (fun us => call (.builtin "len") us) [.str (tx x)] Q X := fun Z Fo s us hn r => by
  obtain ⟨u, us, rfl, r1, r⟩ := r.inv
  rw [r.inv_nil]
  cases r1
  refine PySem.P.len_str (by rw [tx_len]; omega) (.mk' hn.st.toks (.int _ _) ?_)
  rw [tx_len]; exact h
theorem Os_ord {k : Nat} (h : Q (.int k) H) : Os p c ρ H (fun us => call (.builtin "ord") us) [.str (tx [k])] Q X := fun Z Fo s us hn r => by
  obtain ⟨u, us, rfl, r1, r⟩ := r.inv
  rw [r.inv_nil]
  cases r1
  exact PySem.P.ord_of_char (.mk' hn.st.toks (.int _ _) h)
theorem Os_chr {k : Nat} (hk : k ≤ 1114111) (h : Q (.str (tx [k])) H) : Os p c ρ H (fun us => call (.builtin "chr") us) [.int k] Q X := fun Z Fo s us hn r => by
  obtain ⟨u, us, rfl, r1, r⟩ := r.inv
  rw [r.inv_nil]
  cases r1
  exact chr_of_range (by omega) (by omega) (.mk' hn.st.toks (.str _ _) (by rw [Int.toNat_natCast]; exact h))
theorem I_tx {R : List V → HM → Prop} (h : R (x.map fun k => .str (tx [k])) H) : IterW p c (.str (tx x)) H R := I_str (by rw [tx_cps]; exact h)
theorem G_rjust {Qm : Value → List V → HM → Prop} (h : Qm (.builtin "str.rjust") [.str (tx x)] H) : G1 p c ρ H "rjust" (.str (tx x)) Qm X := fun Z Fo s u pl hn r => by
  cases r
  exact PySem.GM.rjust ⟨Z, H, [.str (tx x)], Le.refl _, hn.st, .cons (.str _ _) .nil, h⟩
theorem Os_rjust {m k : Nat} (hm : m ≤ 1000000) (h : Q (.str (tx (List.replicate (m - x.length) k ++ x))) H) : Os p c ρ H (fun us => call (.builtin "str.rjust") us) [.str (tx x), .int (m : Int), .str (tx [k])] Q X := fun Z Fo s us hn r => by
  obtain ⟨u1, us, rfl, r1, r⟩ := r.inv
  obtain ⟨u2, us, rfl, r2, r⟩ := r.inv
  obtain ⟨u3, us, rfl, r3, r⟩ := r.inv
  rw [r.inv_nil]
  cases r1; cases r2; cases r3
  refine rjust_fill ?_ (by rw [tx_len]; rfl) fun t' k' => .mk' hn.st.toks (.str _ _) ?_
  · unfold PadOk fitsSsize Builtin.Str.tooLong
    rw [Bool.and_eq_true, Bool.not_eq_true', Bool.not_eq_true', Bool.or_eq_false_iff, decide_eq_false_iff_not, decide_eq_false_iff_not, decide_eq_false_iff_not, sizeLine_eq]
    omega
  · have e := rjustF_list (tx x) (m : Int) ((tx [k]).cps.getD 0 0)
    rw [tx_of (Txt.rjustF _ _ _), e, tx_cps, tx_len]
    exact h
theorem G_encode {Qm : Value → List V → HM → Prop} (h : Qm (.builtin "str.encode") [.str (tx x)] H) : G1 p c ρ H "encode" (.str (tx x)) Qm X := fun Z Fo s u pl hn r => by
  cases r
  exact getMethod_builtin (typeIs_str _ _ _) F.plainAttrs_str F.slot_str_encode F.type_str_encode (fun a e => by cases e) ⟨Z, H, [.str (tx x)], Le.refl _, hn.st, .cons (.str _ _) .nil, h⟩
theorem Os_encode (hz : x.length ≤ 16777216) (hx : ∀ k ∈ x, k < 128) (h : Q (.bytes (x.map (·.toUInt8))) H) : Os p c ρ H (fun us => call (.builtin "str.encode") us) [.str (tx x), .str (Str.ofString "ascii")] Q X := fun Z Fo s us hn r => by
  obtain ⟨u1, us, rfl, r1, r⟩ := r.inv
  obtain ⟨u2, us, rfl, r2, r⟩ := r.inv
  rw [r.inv_nil]
  cases r1; cases r2
  refine call_meets F.slot_str_encode (typeIs_str _ _ _) F.entry_str_encode (F.args_str_encode_2 _ _) (gives_encode (x := tx x) (by rw [tx_cps]; exact hx) (by simp [tx]; omega)).meets ⟨?_, ?_⟩
  · rw [sizeLine_eq]; simp [ascB, tx]; omega
  · refine .mk' hn.st.toks ?_ h
    have e : ascB (tx x) = (x.map (·.toUInt8)).toArray := by simp [ascB, tx]
    rw [e]; exact .bytes _ _
end
end TextL23
section TextL24
open PySem PySem.W PyProof.Rows PySem.Calls PySem.MeetsSeq
def joinB (sep : List UInt8) : List (List UInt8) → List UInt8
  | [] => []
  | b :: bs => b ++ (bs.map (sep ++ ·)).flatten
theorem joined_tail (sep : Array UInt8) : ∀ (l : List (Array UInt8)) (k : Nat) (acc : Array UInt8), 0 < k → ((l.zipIdx k).foldl (fun out (p : Array UInt8 × Nat) => (if p.2 > 0 then out ++ sep else out) ++ p.1) acc).toList = acc.toList ++ (l.map (fun b => sep.toList ++ b.toList)).flatten
  | [], k, acc, _ => by simp
  | b :: l, k, acc, hk => by
    rw [List.zipIdx_cons, List.foldl_cons, joined_tail sep l (k + 1) _ (Nat.succ_pos _)]
    simp [hk]
theorem joined_eq (sep : List UInt8) (bs : List (List UInt8)) : Builtin.Bytes.joined sep.toArray (bs.map (·.toArray)) = (joinB sep bs).toArray := by
  cases bs with
  | nil => rfl
  | cons b bs =>
    apply Array.toList_inj.mp
    unfold Builtin.Bytes.joined
    rw [List.map_cons, List.zipIdx_cons, List.foldl_cons]
    have := joined_tail sep.toArray (bs.map (·.toArray)) 1 (#[] ++ b.toArray) (by decide)
    simp only [Nat.zero_add, gt_iff_lt, Nat.lt_irrefl, if_false] at this ⊢
    refine this.trans ?_
    simp [joinB, Function.comp_def]
section
variable {p : Pm} {n : Nat} {c : Cx} {ρ : LM} {H : HM} {X : XQ} {Q : V → HM → Prop} {Qb : Bool → HM → Prop} {Qu : LM → HM → Prop} {Z : GM} {Fo : FM} {s : Shared} {a b : Addr} {vs : List V}

theorem RepVs.ints {ks : List Int} {us : List Value} (r : RepVs Z (ks.map .int) us) : IntsAre us ks := by
  induction ks generalizing us with
  | nil => rw [r.inv_nil]; exact .nil
  | cons k ks ih =>
    obtain ⟨u, us, rfl, r1, r2⟩ := r.inv
    cases r1
    exact .cons _ _ (ih r2)
theorem RepVs.bys {bs : List (List UInt8)} {us : List Value} (r : RepVs Z (bs.map .bytes) us) : bysOf us = some (bs.map (·.toArray)) := by
  induction bs generalizing us with
  | nil => rw [r.inv_nil]; rfl
  | cons k ks ih =>
    obtain ⟨u, us, rfl, r1, r2⟩ := r.inv
    cases r1
    simp [bysOf, ih r2]
theorem Os_bytes_list {ks : List Int} (ha : H a = some (.list (ks.map .int))) (hk : ∀ k ∈ ks, 0 ≤ k ∧ k < 256) (hz : ks.length ≤ 16000000) (h : Q (.bytes (ks.map fun k => k.toNat.toUInt8)) H) : Os p c ρ H (fun us => call (.type "bytes") us) [.ref a] Q X := fun Z Fo s us hn r => by
  obtain ⟨u, us, rfl, r1, r⟩ := r.inv
  rw [r.inv_nil]
  obtain ⟨us, L⟩ := lat hn.st ha
  cases r1
  have hlen := L.rep.1
  refine call_bytes_ints L.is L.rep.ints hk (by rw [sizeLine_eq]; simp at hlen; omega) rfl fun h' t k hk' => .mk' (hn.st.grow hk') ?_ h
  exact .bytes _ _
theorem G_join {Qm : Value → List V → HM → Prop} {x : List UInt8} (h : Qm (.builtin "bytes.join") [.bytes x] H) : G1 p c ρ H "join" (.bytes x) Qm X := fun Z Fo s u pl hn r => by
  cases r
  exact getMethod_builtin (typeIs_bytes _ _ _) FB.plainAttrs_bytes slot_bjoin type_bjoin (fun a e => by cases e) ⟨Z, H, [.bytes x], Le.refl _, hn.st, .cons (.bytes _ _) .nil, h⟩
theorem Os_join {x : List UInt8} {bs : List (List UInt8)} (ha : H a = some (.list (bs.map .bytes))) (hz : (joinB x bs).length ≤ 16000000) (hz2 : bs.foldl (· + ·.length) (x.length * (bs.length - 1)) ≤ 16000000) (h : Q (.bytes (joinB x bs)) H) :
    Os p c ρ H (fun us => call (.builtin "bytes.join") us) [.bytes x, .ref a] Q X := fun Z Fo s us hn r => by
  obtain ⟨u1, us, rfl, r1, r⟩ := r.inv
  obtain ⟨u2, us, rfl, r2, r⟩ := r.inv
  rw [r.inv_nil]
  obtain ⟨us, L⟩ := lat hn.st ha
  cases r1; cases r2
  have e := joined_eq x bs
  refine call_join L.is L.rep.bys (by rw [e]; simp; omega) ?_ fun t' k => .mk' hn.st.toks ?_ h
  · have : ∀ (l : List (List UInt8)) (acc : Nat), (l.map (·.toArray)).foldl (· + ·.size) acc = l.foldl (· + ·.length) acc := by
      intro l
      induction l with
      | nil => intro acc; rfl
      | cons b l ih => intro acc; simp only [List.map_cons, List.foldl_cons, List.size_toArray]; exact ih _
    rw [this]; simpa using Nat.le_trans hz2 (by decide)
  · rw [e]; exact .bytes _ _
theorem G_joinS {Qm : Value → List V → HM → Prop} {x : Str} (h : Qm (.builtin "str.join") [.str x] H) : G1 p c ρ H "join" (.str x) Qm X := fun Z Fo s u pl hn r => by
  cases r
  exact PySem.GM.join ⟨Z, H, [.str x], Le.refl _, hn.st, .cons (.str _ _) .nil, h⟩

theorem Os_int_int {i : Int} (h : Q (.int i) H) : Os p c ρ H (fun us => call (.type "int") us) [.int i] Q X := fun Z Fo s us hn r => by
  obtain ⟨u, us, rfl, r1, r⟩ := r.inv
  rw [r.inv_nil]
  cases r1
  exact call_int_int (.mk' hn.st (.int _ _) h)
theorem Os_int_bool {x : Bool} (h : Q (.int (if x then 1 else 0)) H) : Os p c ρ H (fun us => call (.type "int") us) [.bool x] Q X := fun Z Fo s us hn r => by
  obtain ⟨u, us, rfl, r1, r⟩ := r.inv
  rw [r.inv_nil]
  cases r1
  exact call_int_bool (.mk' hn.st.toks (.int _ _) h)
theorem Os_abs {i : Int} (h : Q (.int (i.natAbs : Int)) H) : Os p c ρ H (fun us => call (.builtin "abs") us) [.int i] Q X := fun Z Fo s us hn r => by
  obtain ⟨u, us, rfl, r1, r⟩ := r.inv
  rw [r.inv_nil]
  cases r1
  refine call_abs_int fun u tk => .mk' hn.st.toks (.int _ _) ?_
  have : (if i < 0 then -i else i) = (i.natAbs : Int) := by split <;> omega
  rw [this]; exact h
theorem Os_max2 {i j : Int} (h : Q (.int (max i j)) H) : Os p c ρ H (fun us => call (.builtin "max") us) [.int i, .int j] Q X := fun Z Fo s us hn r => by
  obtain ⟨u1, us, rfl, r1, r⟩ := r.inv
  obtain ⟨u2, us, rfl, r2, r⟩ := r.inv
  rw [r.inv_nil]
  cases r1; cases r2
  refine max_two_ints rfl fun h' tk hk => ?_
  by_cases e : j > i
  · rw [if_pos e]; exact .mk' (hn.st.grow hk) (.int _ _) (by rwa [Int.max_eq_right (by omega)] at h)
  · rw [if_neg e]; exact .mk' (hn.st.grow hk) (.int _ _) (by rwa [Int.max_eq_left (by omega)] at h)
theorem Os_min2 {i j : Int} (h : Q (.int (min i j)) H) : Os p c ρ H (fun us => call (.builtin "min") us) [.int i, .int j] Q X := fun Z Fo s us hn r => by
  obtain ⟨u1, us, rfl, r1, r⟩ := r.inv
  obtain ⟨u2, us, rfl, r2, r⟩ := r.inv
  rw [r.inv_nil]
  cases r1; cases r2
  refine min_two_ints rfl fun h' tk hk => ?_
  by_cases e : j < i
  · rw [if_pos e]; exact .mk' (hn.st.grow hk) (.int _ _) (by rwa [Int.min_eq_right (by omega)] at h)
  · rw [if_neg e]; exact .mk' (hn.st.grow hk) (.int _ _) (by rwa [Int.min_eq_left (by omega)] at h)
theorem O_pow10 {m : Nat} (hm : m ≤ 40) (h : Q (.int (10 ^ m)) H) : O2 p c ρ H (binaryOp .Pow) (.int 10) (.int (m : Int)) Q X := fun Z Fo s u v hn r1 r2 => by
  cases r1; cases r2
  refine pow_int (by omega) ?_ (.mk' hn.st.toks (.int _ _) (by rw [Int.toNat_natCast]; exact h))
  have : (Builtin.Int.intBits 10 : Int) = 4 := by decide +kernel
  rw [this]; omega

theorem Is_int_int {i : Int} (h : Q (.bool true) H) : Os p c ρ H (fun us => call (.builtin "isinstance") us) [.int i, .con (.type "int")] Q X := fun Z Fo s us hn r => by
  obtain ⟨u1, us, rfl, r1, r⟩ := r.inv
  obtain ⟨u2, us, rfl, r2, r⟩ := r.inv
  rw [r.inv_nil]
  cases r1; cases r2
  exact PySem.IsiPair.int_int (.mk' hn.st (.bool _) h)
theorem Is_int_bool {i : Int} (h : Q (.bool false) H) : Os p c ρ H (fun us => call (.builtin "isinstance") us) [.int i, .con (.type "bool")] Q X := fun Z Fo s us hn r => by
  obtain ⟨u1, us, rfl, r1, r⟩ := r.inv
  obtain ⟨u2, us, rfl, r2, r⟩ := r.inv
  rw [r.inv_nil]
  cases r1; cases r2
  exact PySem.IsiPair.int_bool (.mk' hn.st.toks (.bool _) h)
theorem dictS (st : StP p Z Fo H s) {es : List (Str × V)} (ha : H a = some (.fdstr es)) : ∃ o, s.heap.get? a = some o ∧ o.cls = .type "dict" := by
  obtain ⟨kvs, ⟨oz, hz1, hz2⟩, hd, h2⟩ := st.own a _ ha
  exact ⟨oz, st.z _ _ hz1, hz2⟩
theorem Is_dict_own {C : Addr} {es : List (Str × V)} (ha : H a = some (.fdstr es)) (e : isNotIn (Mine.hd.heap_39 p.w.params) "dict" C = true) (h : Q (.bool false) H) : Os p c ρ H (fun us => call (.builtin "isinstance") us) [.ref a, .con (.ref C)] Q X := fun Z Fo s us hn r => by
  obtain ⟨u1, us, rfl, r1, r⟩ := r.inv
  obtain ⟨u2, us, rfl, r2, r⟩ := r.inv
  rw [r.inv_nil]
  obtain ⟨o, h1, h2⟩ := dictS hn.st ha
  cases r1; cases r2
  refine isn_call (P := fun hp => ∃ o, hp.get? a = some o ∧ o.cls = .type "dict") (p.X.keeps hn.st.base) (fun M => ?_) e (by intro q; cases q) ⟨o, h1, h2⟩ dict_cls (.mk' hn.st.toks (.bool _) h)
  exact h2 ▸ (Looks.ld h1).andThen .now
theorem Is_dict_bool {es : List (Str × V)} (ha : H a = some (.fdstr es)) (h : Q (.bool false) H) : Os p c ρ H (fun us => call (.builtin "isinstance") us) [.ref a, .con (.type "bool")] Q X := fun Z Fo s us hn r => by
  obtain ⟨u1, us, rfl, r1, r⟩ := r.inv
  obtain ⟨u2, us, rfl, r2, r⟩ := r.inv
  rw [r.inv_nil]
  obtain ⟨o, h1, h2⟩ := dictS hn.st ha
  cases r1; cases r2
  exact PySem.IsiPair.dict_bool h1 h2 (.mk' hn.st.toks (.bool _) h)
theorem Is_dict_int {es : List (Str × V)} (ha : H a = some (.fdstr es)) (h : Q (.bool false) H) : Os p c ρ H (fun us => call (.builtin "isinstance") us) [.ref a, .con (.type "int")] Q X := fun Z Fo s us hn r => by
  obtain ⟨u1, us, rfl, r1, r⟩ := r.inv
  obtain ⟨u2, us, rfl, r2, r⟩ := r.inv
  rw [r.inv_nil]
  obtain ⟨o, h1, h2⟩ := dictS hn.st ha
  cases r1; cases r2
  exact PySem.IsiPair.dict_int h1 h2 (.mk' hn.st.toks (.bool _) h)
theorem Is_dict_list {es : List (Str × V)} (ha : H a = some (.fdstr es)) (h : Q (.bool false) H) : Os p c ρ H (fun us => call (.builtin "isinstance") us) [.ref a, .con (.type "list")] Q X := fun Z Fo s us hn r => by
  obtain ⟨u1, us, rfl, r1, r⟩ := r.inv
  obtain ⟨u2, us, rfl, r2, r⟩ := r.inv
  rw [r.inv_nil]
  obtain ⟨o, h1, h2⟩ := dictS hn.st ha
  cases r1; cases r2
  exact PySem.IsiPair.dict_list h1 h2 (.mk' hn.st.toks (.bool _) h)
theorem Is_dict_dict {es : List (Str × V)} (ha : H a = some (.fdstr es)) (h : Q (.bool true) H) : Os p c ρ H (fun us => call (.builtin "isinstance") us) [.ref a, .con (.type "dict")] Q X := fun Z Fo s us hn r => by
  obtain ⟨u1, us, rfl, r1, r⟩ := r.inv
  obtain ⟨u2, us, rfl, r2, r⟩ := r.inv
  rw [r.inv_nil]
  obtain ⟨o, h1, h2⟩ := dictS hn.st ha
  cases r1; cases r2
  exact PySem.IsiPair.dict_dict h1 h2 (.mk' hn.st (.bool _) h)
theorem Is_none_int (h : Q (.bool false) H) : Os p c ρ H (fun us => call (.builtin "isinstance") us) [.none, .con (.type "int")] Q X := fun Z Fo s us hn r => by
  obtain ⟨u1, us, rfl, r1, r⟩ := r.inv
  obtain ⟨u2, us, rfl, r2, r⟩ := r.inv
  rw [r.inv_nil]
  cases r1; cases r2
  exact PySem.IsiPair.NoneType_int (.mk' hn.st.toks (.bool _) h)
structure ObjIs (p : Pm) (D : Addr) : Prop where
  hg : plainGet (Mine.hd.heap_39 p.w.params) D "__class__" = true
  hdct : hasDictIn (Mine.hd.heap_39 p.w.params) D = true
  ha : findIn (Mine.hd.heap_39 p.w.params) (.ref D) "__class__" = some (some (.builtin "object.__class__"))
  hn : specialIn (Mine.hd.heap_39 p.w.params) (.builtin "object.__class__") "__get__" = some (some (.builtin "getset_descriptor.__get__"))
  htk : takesIn (Mine.hd.heap_39 p.w.params) (.builtin "object.__class__") = some true
  hm : mroIn (Mine.hd.heap_39 p.w.params) D (.type "object") = some true
theorem Is_obj_own {D C : Addr} {ns : List Str} {vs : List V} (O : ObjIs p D) (e : kin_not (Mine.hd.heap_39 p.w.params) D C = true) (h : Q (.bool false) H) : Os p c ρ H (fun us => call (.builtin "isinstance") us) [.obj D ns vs, .con (.ref C)] Q X := fun Z Fo s us hn r => by
  obtain ⟨u1, us, rfl, r1, r⟩ := r.inv
  obtain ⟨u2, us, rfl, r2, r⟩ := r.inv
  rw [r.inv_nil]
  obtain ⟨x, o, es, m, rfl, I, rf⟩ := r1.instF hn.st
  cases r2
  exact kin_callC (p.X.keeps hn.st.base) I e O.hg O.hdct O.ha O.hn O.htk O.hm (.mk' hn.st.toks (.bool _) h)
theorem Is_obj_T {D : Addr} {T : String} {ns : List Str} {vs : List V} (O : ObjIs p D) (e : kin_notT (Mine.hd.heap_39 p.w.params) D T = true) (hty : typeOf (.type T) = pure (.type "type")) (h : Q (.bool false) H) : Os p c ρ H (fun us => call (.builtin "isinstance") us) [.obj D ns vs, .con (.type T)] Q X := fun Z Fo s us hn r => by
  obtain ⟨u1, us, rfl, r1, r⟩ := r.inv
  obtain ⟨u2, us, rfl, r2, r⟩ := r.inv
  rw [r.inv_nil]
  obtain ⟨x, o, es, m, rfl, I, rf⟩ := r1.instF hn.st
  cases r2
  exact kin_callT (p.X.keeps hn.st.base) I e hty O.hg O.hdct O.ha O.hn O.htk O.hm (.mk' hn.st.toks (.bool _) h)
theorem Is_obj_yes {D C : Addr} {ns : List Str} {vs : List V} (e : isIn (Mine.hd.heap_39 p.w.params) (.ref D) C = true) (h : Q (.bool true) H) : Os p c ρ H (fun us => call (.builtin "isinstance") us) [.obj D ns vs, .con (.ref C)] Q X := fun Z Fo s us hn r => by
  obtain ⟨u1, us, rfl, r1, r⟩ := r.inv
  obtain ⟨u2, us, rfl, r2, r⟩ := r.inv
  rw [r.inv_nil]
  obtain ⟨x, o, es, m, rfl, I, rf⟩ := r1.instF hn.st
  cases r2
  exact isi_call (p.X.keeps hn.st.base) (fun M => I.type) e (by intro q; cases q) (.mk' hn.st (.bool _) h)

theorem tup_new (st : StP p Z Fo H s) {vs : List V} {us : List Value} (r : RepVs Z vs us) {h' : Heap} {tk : Tok} (hk : ∀ b o, s.heap.get? b = some o → h'.get? b = some o) (h : Q (.tup vs) H) :
    EPost p Z Fo Q (.ref h'.objs.size) { s with heap := h'.push { cls := .type "tuple", data := .seq us.toArray }, toks := tk } := by
  have st1 : StP p Z Fo H { s with heap := h', toks := tk } := st.grow hk
  have hnone : h'.get? h'.objs.size = none := Heap.get?_none_of_le (Nat.le_refl _)
  have hget : (h'.push { cls := .type "tuple", data := .seq us.toArray }).get? h'.objs.size = some { cls := .type "tuple", data := .seq us.toArray } := Heap.get?_push_size _ rfl
  obtain ⟨hle, st2⟩ := st1.frz (h' := h'.push { cls := .type "tuple", data := .seq us.toArray }) (tk := tk) hnone (fun b o e => Heap.get?_push_of_some _ e) hget
  exact ⟨_, H, _, hle, st2, .tup (upd_same ..) rfl rfl r.1 fun i v u x y => (r.2 i v u x y).mono hle, h⟩
theorem Os_tuple_list (ha : H a = some (.list vs)) (hl : vs.length ≤ 16000000) (h : Q (.tup vs) H) : Os p c ρ H (fun us => call (.type "tuple") us) [.ref a] Q X := fun Z Fo s us hn r => by
  obtain ⟨u, us, rfl, r1, r⟩ := r.inv
  rw [r.inv_nil]
  obtain ⟨us, L⟩ := lat hn.st ha
  cases r1
  have hlen := L.rep.1
  exact call_tuple_list L.is (fun h' hk => tup_new hn.st L.rep hk h) (by rw [sizeLine_eq]; simp; omega)
theorem O_addT {vs ws : List V} (hl : vs.length + ws.length ≤ 16000000) (hv : vs ≠ []) (hw : ws ≠ []) (h : Q (.tup (vs ++ ws)) H) : O2 p c ρ H (binaryOp .Add) (.tup vs) (.tup ws) Q X := fun Z Fo s u w hn r1 r2 => by
  obtain ⟨t1, us, rfl, h1, q1⟩ := r1.tupAt hn.st
  obtain ⟨t2, ws', rfl, h2, q2⟩ := r2.tupAt hn.st
  obtain ⟨⟨cls, dd, data, sl⟩, ho, hc, n, hd⟩ := id h1
  obtain ⟨⟨cls2, dd2, data2, sl2⟩, ho2, hc2, n2, hd2⟩ := id h2
  simp only at hc hd hc2 hd2
  subst hc hd hc2 hd2
  have e : us.toArray ++ ws'.toArray = (us ++ ws').toArray := by simp
  have l1 := q1.1
  have l2 := q2.1
  have n1 : ¬ us.toArray.isEmpty = true := by cases us <;> simp_all
  have n2' : ¬ ws'.toArray.isEmpty = true := by cases ws' <;> simp_all
  refine concat_meets ⟨_, ho, rfl⟩ ⟨_, ho2, rfl⟩ noFill_tuple_add seq_tuple_add PySem.F.slot_tuple_add PySem.F.entry_tuple_add (PySem.F.args_tuple_add_2 _ _)
        (tuple_addW2 t1 t2 us.toArray ws'.toArray n n2 dd dd2 sl sl2 n1 n2' (by rw [List.size_toArray, List.size_toArray, sizeLine_eq]; omega)) ⟨ho, ho2, ?_⟩
  rw [e]
  exact tup_new (tk := s.toks) hn.st (q1.append q2) (fun _ _ e => e) h
end
end TextL24
section TextL25
open PySem PySem.W PyProof.Rows PySem.Calls PySem.MeetsSeq
section
variable {p : Pm} {n : Nat} {c : Cx} {ρ : LM} {H : HM} {X : XQ} {Q : AF → LM → HM → Prop} {Qu : LM → HM → Prop} {Z : GM} {Fo : FM} {s : Shared} {a b : Addr} {vs : List V} {xs gs : List Str} {rest : List Stmt} {pos : Pos}
def noStar : List Expr → Bool
  | [] => true
  | .Starred _ _ :: _ => false
  | _ :: r => noStar r
def As (p : Pm) (c : Cx) (X : XQ) : List Expr → List V → (LM → HM → Prop) → LM → HM → Prop
  | [], [], Qu, ρ, H => Qu ρ H
  | e :: es, v :: vs, Qu, ρ, H => U1 p c ρ H (fun u => assign e c.env u) v (As p c X es vs Qu) X
  | _, _, _, _, _ => False
theorem each_cons {e : Expr} {es : List Expr} {env : Env} (h : noStar (e :: es) = true) : assignEach (e :: es) env = (false, assign e env) :: assignEach es env ∧ noStar es = true := by
  cases e <;> first | exact ⟨rfl, h⟩ | cases h
theorem as_len {env : Env} : ∀ {es : List Expr}, noStar es = true → (assignEach es env).length = es.length ∧ (assignEach es env).findIdx? (·.1) = none
  | [], _ => ⟨rfl, rfl⟩
  | e :: es, h => by
    obtain ⟨e1, e2⟩ := each_cons (env := env) h
    have ih := as_len (env := env) e2
    rw [e1]
    refine ⟨by simp [ih.1], ?_⟩
    rw [List.findIdx?_cons]
    simp [ih.2]
theorem as_run : ∀ {es : List Expr} {vs : List V} {us : List Value} {ρ : LM} {H : HM} {Z : GM} {Fo : FM} {s : Shared}, noStar es = true → As p c X es vs Qu ρ H → Now p c Z Fo ρ H s → RepVs Z vs us →
    wpAny (M p) c.A (assignInOrder ((assignEach es c.env).map (·.2)) us) (UPost p c Z Fo Qu) (XPost p c Z Fo X) s
  | [], [], us, ρ, H, Z, Fo, s, _, h, hn, r => by
    exact assignInOrder_nil ⟨Z, ρ, H, Le.refl _, by rw [upd_self hn.lo]; exact hn.st, h⟩
  | [], _ :: _, us, ρ, H, Z, Fo, s, _, h, hn, r => h.elim
  | _ :: _, [], us, ρ, H, Z, Fo, s, _, h, hn, r => h.elim
  | e :: es, v :: vs, us, ρ, H, Z, Fo, s, hs, h, hn, r => by
    obtain ⟨u, us, rfl, r1, r2⟩ := r.inv
    obtain ⟨e1, e2⟩ := each_cons (env := c.env) hs
    rw [e1]
    refine assignInOrder_cons (wpAny_mono (h Z Fo s u hn r1) (fun _ s₁ ⟨Z₁, ρ₁, H₁, z1, st1, h1⟩ => ?_) fun _ _ x => x)
    exact wpAny_mono (as_run e2 h1 (hn.stepL st1) (r2.mono z1)) (fun _ s₂ ⟨Z₂, ρ₂, H₂, z2, st2, h2⟩ => ⟨Z₂, ρ₂, H₂, z1.trans z2, by rw [upd_upd] at st2; exact st2, h2⟩) fun _ _ x => (x.mono z1).upd
theorem U_unp {es : List Expr} {k : Nat} (hl : es.length = vs.length) (hs : noStar es = true) (h : As p c X es vs Qu ρ H) : U1 p c ρ H (fun u => assign (.Tuple es k pos) c.env u) (.tup vs) Qu X := fun Z Fo s u hn r => by
  obtain ⟨t, us, rfl, ht, rs⟩ := r.tupAt hn.st
  have hlen := as_len (env := c.env) hs
  refine wpAny_assign_Tuple (A := c.A) rfl ht (by rw [hlen.1, hl, rs.1]; simp) hlen.2 fun h' hx => ?_
  have st' : StP p Z Fo H { s with heap := h' } := by
    refine hn.st.grow (tk := s.toks) fun b o e => hx b o ?_ e
    exact Nat.ne_of_lt (Heap.lt_size e)
  exact as_run hs h (hn.step st') rs
theorem As_cons {e : Expr} {es : List Expr} {v : V} {vs : List V} (h : U1 p c ρ H (fun u => assign e c.env u) v (As p c X es vs Qu) X) : As p c X (e :: es) (v :: vs) Qu ρ H := h
theorem As_nil (h : Qu ρ H) : As p c X [] [] Qu ρ H := h
theorem K_AssignT {es : List Expr} {k : Nat} {tp : Pos} {e : Expr} (h : EW p c ρ H (eval e c.env) (fun v H₁ => U1 p c ρ H₁ (fun u => assign (.Tuple es k tp) c.env u) v (fun ρ₂ H₂ => SW p c ρ₂ H₂ (execs rest c.env) Q X) X) X)
    (hs : swapsWithSole [.Tuple es k tp] e pos.line c.env = pure false := by with_unfolding_all rfl) (hw : swappedStores [.Tuple es k tp] e c.env = pure none := by with_unfolding_all rfl) :
    SW p c ρ H (execs (.Assign [.Tuple es k tp] e pos :: rest) c.env) Q X := by
  refine S_cons fun Z Fo s hn => PyProof.Rows.Assign_Tuple (wpAny_mono (h Z Fo s hn) (fun u s₁ ⟨Z₁, H₁, v, z1, st1, r1, h1⟩ => ?_) fun _ _ e => e) hs hw
  exact wpAny_mono (h1 Z₁ Fo s₁ u (hn.step st1) r1) (fun _ s₂ ⟨Z₂, ρ₂, H₂, z2, st2, h2⟩ => ⟨Z₂, ρ₂, H₂, .next, z1.trans z2, st2, .next, h2⟩) fun _ _ e => e.mono z1
theorem swapped_none {es es' : List Expr} {k k' : Nat} {tp tp' : Pos} {env : Env} (hf : es'.all (foldedForSure 8) = true) : swappedStores [.Tuple es k tp] (.Tuple es' k' tp') env = pure none := by
  unfold swappedStores
  dsimp only
  split
  · rfl
  · split
    · rfl
    · split <;> rfl
theorem Fn.block (F : Fn p n c xs gs) : c.env.blockKind = .function := by
  unfold Env.blockKind
  rw [F.kind]; rfl
theorem swapped_2 (F : Fn p n c xs gs) {x y : Str} {px py tp tp' : Pos} {k k' : Nat} {v w : Expr} (hx : x ∈ xs) (hy : y ∈ xs) (hp : (py.line == px.line) = true) (hne : x ≠ y)
    (hst : ([v, w].any fun | .Starred .. => true | _ => false) = false) (hf : [v, w].all (foldedForSure 8) = false) (hc : [v, w].all (constantsAlone 8) = false) :
    swappedStores [.Tuple [.Name x px, .Name y py] k tp] (.Tuple [v, w] k' tp') c.env = pure (some [x, y]) := by
  have e1 := (F.loc x hx).1
  have e2 := (F.loc y hy).1
  have e3 : (c.env.kindOf x == some NameKind.local && px.line == px.line) = true := by rw [e1]; simp
  have e4 : (c.env.kindOf y == some NameKind.local && py.line == px.line) = true := by rw [e2, hp]; rfl
  have nd : [x, y].eraseDups.length = 2 := by
    rw [List.eraseDups_cons]
    have : (y == x) = false := by simpa using fun q : y = x => hne q.symm
    simp [this]
    rfl
  have hfm : List.filterMap (fun x_1 => match x_1 with
      | Expr.Name id pos => if (c.env.kindOf id == some NameKind.local && pos.line == ((([Expr.Name x px, Expr.Name y py] : List Expr).head?.map (·.pos.line)).getD 0)) = true then some id else none
      | _ => none) [Expr.Name x px, Expr.Name y py] = [x, y] := by
    have hp' : py.line = px.line := by simpa using hp
    simp [e1, e2, hp', Expr.pos]
  unfold swappedStores
  dsimp only
  rw [F.block]
  refine Eq.trans (if_neg (by simp)) ?_
  refine Eq.trans (if_neg fun q => absurd (hst.symm.trans q) (by decide)) ?_
  have key : ∀ names : List Str, names = [x, y] → (if (names.length != [Expr.Name x px, Expr.Name y py].length || names.eraseDups.length != names.length) = true then (pure none : Sem (Option (List Str))) else
      if ([v, w].all (foldedForSure 8)) = true then pure none else if ([v, w].all (constantsAlone 8)) = true then (do unsupported "assign.tuple-of-constant-expressions:order-of-the-stores"; pure (some names)) else pure (some names)) = pure (some [x, y]) := by
    intro names hn
    subst hn
    rw [nd, hf, hc]; rfl
  exact key _ hfm
theorem K_AssignT2 (F : Fn p n c xs gs) {x y : Str} {px py tp tp' : Pos} {k k' : Nat} {e1 e2 : Expr} (hx : x ∈ xs) (hy : y ∈ xs)
    (h : EW p c ρ H (eval (.Tuple [e1, e2] k' tp') c.env) (fun v H₁ => ∃ a b, v = .tup [a, b] ∧ U1 p c ρ H₁ (storeName c.env y) b (fun ρ₂ H₂ => U1 p c ρ₂ H₂ (storeName c.env x) a (fun ρ₃ H₃ => SW p c ρ₃ H₃ (execs rest c.env) Q X) X) X) X)
    (hp : (py.line == px.line) = true := by rfl) (hne : x ≠ y := by decide)
    (hst : ([e1, e2].any fun | .Starred .. => true | _ => false) = false := by rfl) (hf : [e1, e2].all (foldedForSure 8) = false := by rfl) (hc : [e1, e2].all (constantsAlone 8) = false := by rfl)
    (hs : swapsWithSole [.Tuple [.Name x px, .Name y py] k tp] (.Tuple [e1, e2] k' tp') pos.line c.env = pure false := by with_unfolding_all rfl) :
    SW p c ρ H (execs (.Assign [.Tuple [.Name x px, .Name y py] k tp] (.Tuple [e1, e2] k' tp') pos :: rest) c.env) Q X := by
  refine S_cons fun Z Fo s hn => PyProof.Rows.Assign_Tuple_swapped (names := [x, y]) (wpAny_mono (h Z Fo s hn) (fun u s₁ ⟨Z₁, H₁, v, z1, st1, r1, a, b, hv, h1⟩ => ?_) fun _ _ e => e) hs (swapped_2 F hx hy hp hne hst hf hc)
  subst hv
  obtain ⟨t, us, rfl, ht, rs⟩ := r1.tupAt st1
  obtain ⟨u1, us, rfl, ra, rs⟩ := rs.inv
  obtain ⟨u2, us, rfl, rb, rs⟩ := rs.inv
  rw [rs.inv_nil] at ht
  refine PySem.wpAny_unpackItems_tuple (A := c.A) (items := [u1, u2].toArray) rfl ht fun h' hx' => ?_
  have st' : StP p Z₁ Fo H₁ { s₁ with heap := h' } := by
    refine st1.grow (tk := s₁.toks) fun b o e => hx' b o ?_ e
    exact Nat.ne_of_lt (Heap.lt_size e)
  refine assignInOrder_cons (wpAny_bindName (wpAny_mono (h1 Z₁ Fo _ u2 (hn.step st') rb) (fun _ s₂ ⟨Z₂, ρ₂, H₂, z2, st2, h2⟩ => ?_) fun _ _ e => e.mono z1))
  refine assignInOrder_cons (wpAny_bindName (wpAny_mono (h2 Z₂ _ _ u1 ((hn.step st').stepL st2) (ra.mono z2)) (fun _ s₃ ⟨Z₃, ρ₃, H₃, z3, st3, h3⟩ => ?_) fun _ _ e => (e.mono (z1.trans z2)).upd))
  refine assignInOrder_nil ⟨Z₃, ρ₃, H₃, .next, (z1.trans z2).trans z3, ?_, .next, h3⟩
  rw [upd_upd] at st3; exact st3
end
end TextL25
section TextL26
open PySem PySem.W PyProof.Rows PySem.Calls
section
variable {p : Pm} {Z Z' : GM} {Fo : FM} {H : HM} {s : Shared}
theorem St.claim (x : StP p Z Fo H s) {I : Addr} {o : AObj} (f : Free p Z Fo H I) (hat : At p.prog p.w Z s.heap I o) : StP p Z Fo (upd H I o) s where
  base := x.base
  z := x.z
  zb := x.zb
  own := fun b o' e => by
    by_cases hb : b = I
    · subst hb; rw [upd_same] at e; cases e; exact hat
    · rw [upd_ne hb] at e; exact x.own b o' e
  hb := fun b o' e => by
    by_cases hb : b = I
    · subst hb; exact ⟨f.2.2.2, fun _ => f.1⟩
    · rw [upd_ne hb] at e; exact x.hb b o' e
  fr := x.fr
  fb := fun b ρ e => ⟨(x.fb b ρ e).1, (x.fb b ρ e).2.1, by
    rw [upd_ne (fun q => by rw [q, f.2.1] at e; cases e)]; exact (x.fb b ρ e).2.2⟩
  stay := fun _ _ e => e
  gens := x.gens
  os := x.os

def numC (k : Nat) : List (Str × Option V) → List (Str × Addr)
  | [] => []
  | (x, _) :: r => numC (k + 1) r ++ [(x, k)]
def claimC (H : HM) (k : Nat) : List (Str × Option V) → HM
  | [] => H
  | (_, i) :: r => claimC (upd H k (.cell i)) (k + 1) r
theorem numC_mem : ∀ {l : List (Str × Option V)} {k : Nat} {x : Str}, x ∉ l.map (·.1) → (numC k l).lookup x = none
  | [], k, x, _ => rfl
  | (y, i) :: r, k, x, h => by
    simp only [List.map_cons, List.mem_cons, not_or] at h
    rw [numC, List.lookup_append, numC_mem h.2, Option.none_or, List.lookup_cons, beq_eq_false_iff_ne.mpr h.1]; rfl
theorem numC_lookup : ∀ {l : List (Str × Option V)} {k j : Nat} {x : Str} {i : Option V}, (l.map (·.1)).Nodup → l[j]? = some (x, i) → (numC k l).lookup x = some (k + j)
  | [], k, j, x, i, _, h => by simp at h
  | (y, i') :: r, k, 0, x, i, nd, h => by
    simp only [List.getElem?_cons_zero, Option.some.injEq, Prod.mk.injEq] at h
    obtain ⟨rfl, rfl⟩ := h
    rw [List.map_cons, List.nodup_cons] at nd
    rw [numC, List.lookup_append, numC_mem nd.1]
    simp
  | (y, i') :: r, k, j + 1, x, i, nd, h => by
    rw [List.map_cons, List.nodup_cons] at nd
    rw [numC, List.lookup_append, numC_lookup nd.2 (by simpa using h)]
    exact congrArg some (show (k + 1 + j : Nat) = k + (j + 1) by omega)
theorem St.claimC : ∀ {l : List (Str × Option V)} {k : Nat} {H : HM}, StP p Z Fo H s → (∀ j x i, l[j]? = some (x, i) → Free p Z Fo H (k + j) ∧ At p.prog p.w Z s.heap (k + j) (.cell i)) → StP p Z Fo (Mine.claimC H k l) s
  | [], k, H, st, _ => st
  | (x, i) :: r, k, H, st, h => by
    have h0 := h 0 x i rfl
    rw [Nat.add_zero] at h0
    refine St.claimC (l := r) (St.claim st h0.1 h0.2) fun j y i' e => ?_
    have h1 := h (j + 1) y i' (by simpa using e)
    rw [show (k + (j + 1) : Nat) = k + 1 + j by omega] at h1
    refine ⟨⟨h1.1.1, h1.1.2.1, ?_, h1.1.2.2.2⟩, h1.2⟩
    rw [upd_ne (show (k + 1 + j : Nat) ≠ k by omega)]; exact h1.1.2.2.1
end
def callCxC (c : Cx) (fd : FuncData) (L f : Addr) : Cx := ⟨callEnvC fd L f, callEnvC fd L f :: c.fr, c.n - 1⟩
structure Ce (c : Cx) (x : Str) (a : Addr) : Prop where
  cell : c.env.cells.lookup x = some a
  kind : c.env.kindOf x = some .cell
  nd : (x == ("__debug__" : Str)) = false

section
variable {p : Pm} {c : Cx} {ρ : LM} {H : HM} {Z Z₁ : GM} {Fo : FM} {s s' : Shared} {X : XQ} {Q : V → HM → Prop} {Qu : LM → HM → Prop}
theorem Cl_ {n : Nat} {xs gs : List Str} (F : Fn p n c xs gs) {x : Str} {pos : Pos} {v : V} {a : Addr} (C : Ce c x a) (hv : H a = some (.cell (some v))) (h : Q v H) : EW p c ρ H (eval (.Name x pos) c.env) Q X :=
  E_cell C.cell hv h F.kind C.kind C.nd
theorem Uc_ {n : Nat} {xs gs : List Str} (F : Fn p n c xs gs) {x : Str} {v : V} {v₀ : Option V} {a : Addr} (C : Ce c x a) (hv : H a = some (.cell v₀)) (h : Qu ρ (upd H a (.cell (some v)))) : U1 p c ρ H (storeName c.env x) v Qu X :=
  U_cell C.cell hv h F.kind C.kind

theorem CW_cells {n : Nat} {f : Addr} {o : Obj} {fd : FuncData} {body : List Stmt} {y : Str} {v : V} {Xc : Addr → LM → HM → Prop} (ρ : LM) (cells : List (Str × Option V))
    (ho : (Mine.hd.heap_39 p.w.params).lookup f = some o) (hdat : o.data = .func fd) (hcd : codeIn (Mine.hd.heap_39 p.w.params) fd.code fd.qualname = true) (hbody : fd.body = .stmts body)
    (hb : ∀ u, bindArgs fd ⟨[u], []⟩ = pure [(y, u)]) (hclo : fd.closure = [])
    (hcs : ∀ L, cellsFrom (L + 1) fd.scope.names [] = numC (L + 1) cells) (hnd : (cells.map (·.1)).Nodup)
    (hkind : fd.scope.names.lookup y = some .local ∨ (fd.scope.names.lookup y = some .cell ∧ y ∈ cells.map (·.1)))
    (hρ : ∀ Z u, RepV Z v u → RepM Z ρ (bindL (fun x => fd.scope.names.lookup x) [(y, u)] fun _ => none))
    (hcv : ∀ Z u, RepV Z v u → ∀ x w, (x, some w) ∈ cells → ∃ u', bindC (fun x => fd.scope.names.lookup x) [(y, u)] (fun _ => none) x = some u' ∧ RepV Z w u')
    (hco : fd.scope.isCoroutine = false) (hgen : fd.scope.isGenerator = false) (hk : fd.scope.kind = .function) (hn1 : 1 ≤ n)
    (h : ∀ (L : Addr) (c : Cx), n ≤ c.n → p.g.objs.size ≤ L → H L = none → (∀ j, H (L + 1 + j) = none) → SW p (callCxC c fd L f) ρ (claimC H (L + 1) cells) (execs body (callCxC c fd L f).env) (fun af _ H' => Q (retV af) H') (fun C fs _ H' => Xc C fs H')) :
    CW p n (.ref f) [v] H Q Xc := fun c ρ₀ hnc hL Z Fo s us hnow r => by
  obtain ⟨u, us, rfl, r1, r⟩ := r.inv
  rw [r.inv_nil]
  have hX := p.X.keeps hnow.st.base
  have hroom : c.A.depth < recursionLimit := by show 998 - c.n < 1000; omega
  have hmem : ∀ {l : List (Str × Option V)} {k : Nat} {x : Str}, x ∈ l.map (·.1) → ((numC k l).lookup x).isSome = true := by
    intro l
    induction l with
    | nil => intro k x h; cases h
    | cons a r ih =>
      intro k x h
      obtain ⟨z, i⟩ := a
      rw [numC, List.lookup_append]
      rcases List.mem_cons.mp h with h | h
      · dsimp only at h; subst h
        cases q : (numC (k + 1) r).lookup x with
        | none => simp
        | some b => simp
      · obtain ⟨b, hb⟩ := Option.isSome_iff_exists.mp (ih (k := k + 1) h)
        rw [hb]; rfl
  refine codeAny_call_cells hroom (hX _ _ ho) hdat (p.T.nolimit.keeps hnow.st.base) (codeRec_of hX hcd) hbody (hb u) hclo (fun x hx => ?_) (fun s₁ IC => ?_) hco hgen hk
  · simp only [List.mem_cons, List.not_mem_nil, or_false] at hx
    subst hx
    rcases hkind with h1 | ⟨h1, h2⟩
    · exact .inl h1
    · exact .inr ⟨h1, by rw [hcs]; exact hmem h2⟩
  have hnone : s.heap.get? s.heap.objs.size = none := Heap.get?_none_of_le (Nat.le_refl _)
  have hlt : p.g.objs.size ≤ s.heap.objs.size := by
    obtain ⟨m, ⟨oo, _, _, h1, _⟩, _⟩ := hnow.st.fr _ _ hnow.lo
    exact Nat.le_trans hL (Nat.le_of_lt (Heap.lt_size h1))
  obtain ⟨⟨⟨h', tk, rfl⟩, hns, hkeep, hfresh⟩, hcell, hap, hab⟩ := IC
  obtain ⟨hFL, st₀⟩ := hnow.st.push (tk := tk) (ρ := ρ) (L := s.heap.objs.size) hnone hkeep hns (hρ Z u r1)
  have hfree : ∀ j, Free p Z (upd Fo s.heap.objs.size ρ) H (s.heap.objs.size + 1 + j) := fun j => by
    have := hnow.st.freeOf (Heap.get?_none_of_le (h := s.heap) (a := s.heap.objs.size + 1 + j) (by omega))
    exact ⟨this.1, by rw [upd_ne (show (s.heap.objs.size + 1 + j : Nat) ≠ s.heap.objs.size by omega)]; exact this.2.1, this.2.2.1, this.2.2.2⟩
  have st₁ := St.claimC (l := cells) (k := s.heap.objs.size + 1) st₀ fun j x i e => by
    refine ⟨hfree j, ?_⟩
    have hl : (callEnvC fd s.heap.objs.size f).cells.lookup x = some (s.heap.objs.size + 1 + j) := by
      show (cellsFrom (s.heap.objs.size + 1) fd.scope.names []).lookup x = _
      rw [hcs]; exact numC_lookup hnd e
    refine ⟨_, hcell x _ hl, ?_⟩
    cases i with
    | none => trivial
    | some w => exact hcv Z u r1 x w (List.mem_of_getElem? e)
  have hHL : H s.heap.objs.size = none := (hnow.st.freeOf hnone).2.2.1
  have hHc : ∀ j, H (s.heap.objs.size + 1 + j) = none := fun j => (hfree j).2.2.1
  generalize hL' : s.heap.objs.size = L at *
  have now' : Now p (callCxC c fd L f) Z (upd Fo L ρ) ρ (claimC H (L + 1) cells) { s with heap := h', toks := tk } := by
    refine ⟨st₁, upd_same .., fun env he => ?_, by show c.n - 1 < 600; have := hnow.n; omega⟩
    rcases List.mem_cons.mp he with rfl | he
    · exact ⟨by show fd.scope.kind ≠ .module; rw [hk]; decide, L, rfl, _, upd_same ..⟩
    · exact hnow.fr.upd env he
  have body' := h L c hnc hlt hHL hHc Z _ _ now'
  have hne : ∀ b ρ', Fo b = some ρ' → b ≠ L := fun b ρ' e q => by rw [q, hFL] at e; cases e
  have hnn := hnow.n
  refine wpAny_mono (wpAny_AR body' rfl (by show 998 - c.n + 1 ≤ 998 - (c.n - 1); omega) rfl (by show 9000 - 10 * c.n + 3 ≤ 9000 - 10 * (c.n - 1); omega)) (fun fl s' ⟨Z', ρ', H', af, z, st, rf, q⟩ => ?_) (fun u s' x => ?_)
  · have st' : StP p Z' Fo H' s' := StX.less st fun b ρ₁ e => ⟨ρ₁, by show upd (upd Fo L _) L ρ' b = _; rw [upd_upd, upd_ne (hne b ρ₁ e)]; exact e, fun _ _ h => h⟩
    cases rf with
    | next => exact ⟨Z', H', .none, z, st', .none, q⟩
    | brk => exact ⟨Z', H', .none, z, st', .none, q⟩
    | cont => exact ⟨Z', H', .none, z, st', .none, q⟩
    | ret rv => exact ⟨Z', H', _, z, st', rv, q⟩
  · obtain ⟨Z', ρ', H', B, e, C, d, md, fs, rfl, z, fl, hmd, hx⟩ := x
    have hmd' : md = none ∨ md = some .none ∨ md = some (rawInt L) := hmd.imp_right fun q => q.imp_right fun ⟨L', a, b⟩ => by cases a; exact b
    unfold leaving
    refine wpAny_bind (fly_note (L := L) rfl rfl now'.fr.upd hmd' fl fun s₁ fl₁ => ?_)
    refine fly_setFlight fl₁ fun s₂ fl₂ => ?_
    refine ⟨Z', ρ₀, H', B, e, C, d, some .none, fs, rfl, z, ?_, .inr (.inl rfl), rfl, hx⟩
    rw [upd_self hnow.lo]
    have lessF : ∀ b ρ₁, Fo b = some ρ₁ → upd (upd Fo L ρ) (callCxC c fd L f).L ρ' b = some ρ₁ := fun b ρ₁ e => by
      show upd (upd Fo L _) L ρ' b = _; rw [upd_upd, upd_ne (hne b ρ₁ e)]; exact e
    have noF : ∀ b, upd (upd Fo L ρ) (callCxC c fd L f).L ρ' b = none → Fo b = none := fun b e => by
      cases q : Fo b with
      | none => rfl
      | some ρ₁ => rw [lessF b ρ₁ q] at e; cases e
    exact ⟨fl₂.st.less fun b ρ₁ e => ⟨ρ₁, lessF b ρ₁ e, fun _ _ h => h⟩, fl₂.ex, fun env he => fl₂.hid env (.tail _ he), fl₂.at_, ⟨fl₂.new.1, fl₂.new.2.1, fl₂.new.2.2.1, noF _ fl₂.new.2.2.2⟩, ⟨fl₂.new'.1, fl₂.new'.2.1, fl₂.new'.2.2.1, noF _ fl₂.new'.2.2.2⟩⟩

def scopeC (names : List (Str × NameKind)) (xs gs cs : List Str) : Bool :=
  decide xs.Nodup && xs.all (fun x => decide (names.lookup x = some .local) && !(x == "__debug__")) && gs.all (fun x => decide (names.lookup x = some .globalImplicit) && !(x == "__debug__") && !(x == "__name__")) && cs.all (fun x => decide (names.lookup x = some .cell) && !(x == "__debug__"))
theorem FnC {n : Nat} {fd : FuncData} {xs gs cs : List Str} (hsc : scopeC fd.scope.names xs gs cs = true) (hk : fd.scope.kind = .function) (hgl : fd.globals = mainGlobals) (hbt : fd.builtins = builtinsNs) (hgen : fd.scope.isGenerator = false) (hco : fd.scope.isCoroutine = false)
    {L f : Addr} {c : Cx} (hn : n + 1 ≤ c.n) (hL : p.g.objs.size ≤ L) : Fn p n (callCxC c fd L f) xs gs ∧ (∀ x ∈ cs, (callCxC c fd L f).env.kindOf x = some .cell ∧ (x == ("__debug__" : Str)) = false) := by
  simp only [scopeC, Bool.and_eq_true, decide_eq_true_eq, List.all_eq_true, Bool.not_eq_true'] at hsc
  obtain ⟨⟨⟨s1, s3⟩, s4⟩, s5⟩ := hsc
  refine ⟨⟨hk, hgl, hbt, s1, fun x hx => s3 x hx, fun x hx => ⟨(s4 x hx).1.1, (s4 x hx).1.2, fun e => ?_⟩, hgen, hco, hL, ?_⟩, fun x hx => s5 x hx⟩
  · have := (s4 x hx).2; subst e; cases this
  · show n ≤ c.n - 1; omega

theorem CW_cellP {n : Nat} {f : Addr} {o : Obj} {fd : FuncData} {body : List Stmt} {y : Str} {v : V} {Xc : Addr → LM → HM → Prop} (xs gs : List Str) (vals : List (Option V))
    (hb : ∀ u, bindArgs fd ⟨[u], []⟩ = pure [(y, u)]) (hcs : ∀ L, cellsFrom (L + 1) fd.scope.names [] = [(y, L + 1)])
    (h : ∀ c a, Fn p n c xs gs → c.Top → H c.L = none → Ce c y a → H a = none → a ≠ c.L → SW p c (loc xs vals) (upd H a (.cell (some v))) (execs body c.env) (fun af _ H' => Q (retV af) H') (fun C fs _ H' => Xc C fs H'))
    (ho : (Mine.hd.heap_39 p.w.params).lookup f = some o := by k_is) (hdat : o.data = .func fd := by rfl) (hcd : codeIn (Mine.hd.heap_39 p.w.params) fd.code fd.qualname = true := by k_is) (hbody : fd.body = .stmts body := by rfl)
    (hclo : fd.closure = [] := by rfl) (hsc : scopeC fd.scope.names xs gs [y] = true := by decide +kernel) (hvals : loc xs vals = [] := by rfl)
    (hco : fd.scope.isCoroutine = false := by rfl) (hgen : fd.scope.isGenerator = false := by rfl) (hk : fd.scope.kind = .function := by rfl) (hgl : fd.globals = mainGlobals := by rfl) (hbt : fd.builtins = builtinsNs := by rfl) :
    CW p (n + 1) (.ref f) [v] H Q Xc := by
  have hy : fd.scope.names.lookup y = some .cell := by
    simp only [scopeC, Bool.and_eq_true, decide_eq_true_eq, List.all_eq_true, Bool.not_eq_true'] at hsc
    exact (hsc.2 y (.head _)).1
  refine CW_cells [] [(y, some v)] ho hdat hcd hbody hb hclo hcs (by simp) (.inr ⟨hy, .head _⟩) (fun Z u r x w e => by cases e) (fun Z u r x w hm => ?_) hco hgen hk (Nat.succ_pos _) fun L c hn hL hHL hHc => ?_
  · simp only [List.mem_cons, List.not_mem_nil, or_false, Prod.mk.injEq, Option.some.injEq] at hm
    obtain ⟨rfl, rfl⟩ := hm
    refine ⟨u, ?_, r⟩
    unfold bindC bindC
    rw [if_neg (by rw [hy]; decide)]; simp
  · obtain ⟨F, hc⟩ := FnC (p := p) (f := f) hsc hk hgl hbt hgen hco hn hL
    rw [← hvals]
    refine h (callCxC c fd L f) (L + 1) F ⟨c.fr, L, rfl, rfl⟩ hHL ⟨?_, (hc y (.head _)).1, (hc y (.head _)).2⟩ (hHc 0) (Nat.succ_ne_self L)
    show (cellsFrom (L + 1) fd.scope.names []).lookup y = _
    rw [hcs]; simp

theorem CW_cell1 {n : Nat} {f : Addr} {o : Obj} {fd : FuncData} {body : List Stmt} {y z : Str} {v : V} {Xc : Addr → LM → HM → Prop} (xs gs : List Str) (vals : List (Option V))
    (hb : ∀ u, bindArgs fd ⟨[u], []⟩ = pure [(y, u)]) (hcs : ∀ L, cellsFrom (L + 1) fd.scope.names [] = [(z, L + 1)])
    (h : ∀ c a, Fn p n c xs gs → c.Top → H c.L = none → Ce c z a → H a = none → a ≠ c.L → SW p c (loc xs vals) (upd H a (.cell none)) (execs body c.env) (fun af _ H' => Q (retV af) H') (fun C fs _ H' => Xc C fs H'))
    (ho : (Mine.hd.heap_39 p.w.params).lookup f = some o := by k_is) (hdat : o.data = .func fd := by rfl) (hcd : codeIn (Mine.hd.heap_39 p.w.params) fd.code fd.qualname = true := by k_is) (hbody : fd.body = .stmts body := by rfl)
    (hclo : fd.closure = [] := by rfl) (hsc : scopeC fd.scope.names xs gs [z] = true := by decide +kernel) (hy : fd.scope.names.lookup y = some .local := by rfl) (hvals : loc xs vals = [(y, v)] := by rfl)
    (hco : fd.scope.isCoroutine = false := by rfl) (hgen : fd.scope.isGenerator = false := by rfl) (hk : fd.scope.kind = .function := by rfl) (hgl : fd.globals = mainGlobals := by rfl) (hbt : fd.builtins = builtinsNs := by rfl) :
    CW p (n + 1) (.ref f) [v] H Q Xc := by
  refine CW_cells [(y, v)] [(z, none)] ho hdat hcd hbody hb hclo hcs (by simp) (.inl hy) (fun Z u r x w e => ?_) (fun Z u r x w hm => ?_) hco hgen hk (Nat.succ_pos _) fun L c hn hL hHL hHc => ?_
  · unfold bindL bindL
    rw [if_pos hy]
    rw [lookup_cons_eq] at e
    by_cases q : x = y
    · rw [if_pos q] at e; cases e; exact ⟨u, by simp [q], r⟩
    · rw [if_neg q] at e; cases e
  · simp at hm
  · obtain ⟨F, hc⟩ := FnC (p := p) (f := f) hsc hk hgl hbt hgen hco hn hL
    rw [← hvals]
    refine h (callCxC c fd L f) (L + 1) F ⟨c.fr, L, rfl, rfl⟩ hHL ⟨?_, (hc z (.head _)).1, (hc z (.head _)).2⟩ (hHc 0) (Nat.succ_ne_self L)
    show (cellsFrom (L + 1) fd.scope.names []).lookup z = _
    rw [hcs]; simp

end
end TextL26
section TextL27
open PySem PySem.W PyProof.Rows PySem.Calls PySem.MeetsSeq
def cellsOf : List (Str × Addr) → List (Str × NameKind) → List (Str × Addr) → Option (List (Str × Addr))
  | _, [], acc => some acc
  | cs, (n, k) :: r, acc => if k == .free then (match cs.lookup n with | some a => cellsOf cs r ((n, a) :: acc) | none => none) else cellsOf cs r acc
theorem forIn_cells {env : Env} : ∀ {names : List (Str × NameKind)} {acc cl : List (Str × Addr)}, cellsOf env.cells names acc = some cl →
    (forIn names acc fun (x : Str × NameKind) (cs : List (Str × Addr)) => if (x.2 == NameKind.free) = true then (do let a ← cellOf env x.1; pure (ForInStep.yield ((x.1, a) :: cs))) else pure (ForInStep.yield cs) : Sem (List (Str × Addr))) = pure cl
  | [], acc, cl, h => by cases h; rfl
  | (n, k) :: r, acc, cl, h => by
    rw [List.forIn_cons]
    unfold cellsOf at h
    by_cases hk : (k == NameKind.free) = true
    · simp only [hk, if_true] at h ⊢
      cases q : env.cells.lookup n with
      | none => rw [q] at h; cases h
      | some a =>
        rw [q] at h
        have : cellOf env n = pure a := by unfold cellOf; rw [q]
        rw [this]
        exact forIn_cells h
    · simp only [hk, if_false, Bool.false_eq_true] at h ⊢
      exact forIn_cells h
theorem closure_of {scope : Scope} {env : Env} {cl : List (Str × Addr)} (h : cellsOf env.cells scope.names [] = some cl) : closureFor scope env = pure cl := by
  unfold closureFor
  have := forIn_cells (env := env) h
  simp only [bind_pure_comp] at this ⊢
  rw [this]; rfl

def compCx (c : Cx) (scope : Scope) (cl : List (Str × Addr)) (C : Addr) : Cx := ⟨compEnvC scope cl C c.env, c.fr, c.n⟩

def hideTypes : List String := "list" :: iterTypes
theorem RepV.erase2 {Z : GM} {I : Addr} {oI : Obj} {T : String} (hI : Z I = some oI) (hc : oI.cls = .type T) (hT : T ∈ hideTypes) {v : V} {u : Value} (r : RepV Z v u) : RepV (Mine.erase Z I) v u := by
  have ne : ∀ {a : Addr} {o : Obj}, Z a = some o → (∀ T', o.cls = .type T' → T' ∉ hideTypes) → Mine.erase Z I a = some o := fun {a o} e k => by
    rw [erase_ne (fun q => by subst q; rw [hI] at e; cases e; exact k T hc hT)]; exact e
  induction r with
  | none => exact .none
  | bool b => exact .bool b
  | int i t => exact .int i t
  | str s t => exact .str s t
  | bytes b t => exact .bytes b t
  | con v => exact .con v
  | tup h1 h2 h3 h4 _ ih => exact .tup (ne h1 fun T' e => by rw [h2] at e; cases e; decide) h2 h3 h4 ih
  | ref a => exact .ref a
  | ob h1 => exact .ob (ne h1 fun T' e => by cases e)
  | obj h1 h1a h1b h1c h2 h3 h4 h5 _ ih => exact .obj (ne h1 fun T' e => by rw [h1a] at e; cases e) h1a h1b h1c (ne h2 fun T' e => by cases e; decide) h3 h4 h5 ih
  | slc h1 _ _ i1 i2 => exact .slc (ne h1 fun T' e => by cases e; decide) i1 i2
  | rng h1 => exact .rng (ne h1 fun T' e => by cases e; decide)
theorem RepVs.erase2 {Z : GM} {I : Addr} {oI : Obj} {T : String} (hI : Z I = some oI) (hc : oI.cls = .type T) (hT : T ∈ hideTypes) {v : List V} {u : List Value} (r : RepVs Z v u) : RepVs (Mine.erase Z I) v u :=
  ⟨r.1, fun i a b x y => (r.2 i a b x y).erase2 hI hc hT⟩
theorem At.erase2 {prog : Program} {w : World} {Z : GM} {h : Heap} {I a : Addr} {oI : Obj} {T : String} (hI : Z I = some oI) (hc : oI.cls = .type T) (hT : T ∈ hideTypes) {o : AObj} (hne : a ≠ I) (x : At prog w Z h a o) : At prog w (Mine.erase Z I) h a o := by
  have rv : ∀ {v u}, RepV Z v u → RepV (Mine.erase Z I) v u := fun r => r.erase2 hI hc hT
  have rvs : ∀ {v u}, RepVs Z v u → RepVs (Mine.erase Z I) v u := fun r => r.erase2 hI hc hT
  cases o with
  | list vs => obtain ⟨us, n, h1, h2⟩ := x; exact ⟨us, n, h1, rvs h2⟩
  | dint es => obtain ⟨kvs, h1, h2⟩ := x; exact ⟨kvs, h1, h2.1, rvs h2.2⟩
  | dstr es => obtain ⟨kvs, h1, h2⟩ := x; exact ⟨kvs, h1, h2.1, rvs h2.2⟩
  | flds fs => obtain ⟨es, n, h1, h2⟩ := x; exact ⟨es, n, h1, h2.1, fun i f e x y => ⟨(h2.2 i f e x y).1, rv (h2.2 i f e x y).2⟩⟩
  | cell v =>
    obtain ⟨u, h1, h3⟩ := x
    refine ⟨u, h1, ?_⟩
    cases v with
    | none => trivial
    | some v => obtain ⟨u', e, r⟩ := h3; exact ⟨u', e, rv r⟩
  | flist vs => obtain ⟨us, n, h1, h0, h2⟩ := x; exact ⟨us, n, h1, by rw [erase_ne hne]; exact h0, rvs h2⟩
  | fdint es => obtain ⟨kvs, ⟨oz, hz1, hz2⟩, h1, h2⟩ := x; exact ⟨kvs, ⟨oz, by rw [erase_ne hne]; exact hz1, hz2⟩, h1, h2.1, rvs h2.2⟩
  | fdstr es => obtain ⟨kvs, ⟨oz, hz1, hz2⟩, h1, h2⟩ := x; exact ⟨kvs, ⟨oz, by rw [erase_ne hne]; exact hz1, hz2⟩, h1, h2.1, rvs h2.2⟩
  | exc C d => exact x
section
variable {p : Pm} {Z Z' : GM} {Fo : FM} {H : HM} {s : Shared}
theorem St.erase2 (x : StP p Z Fo H s) {I : Addr} {oI : Obj} {T : String} (hI : Z I = some oI) (hc : oI.cls = .type T) (hT : T ∈ hideTypes) (hH : H I = none) : Free p (Mine.erase Z I) Fo H I ∧ StP p (Mine.erase Z I) Fo H s := by
  have hF : Fo I = none := by
    cases q : Fo I with
    | none => rfl
    | some ρ => have := (x.fb I ρ q).2.1; rw [hI] at this; cases this
  refine ⟨⟨erase_same .., hF, hH, x.zb I _ hI⟩, x.base, fun b o' e => x.z b o' (erase_some e).2, fun b o' e => x.zb b o' (erase_some e).2, fun b o' e => (x.own b o' e).erase2 hI hc hT (fun q => by rw [q, hH] at e; cases e), fun b o' e => ⟨(x.hb b o' e).1, fun m => ?_⟩, fun b ρ e => ?_, fun b ρ e => ?_, fun _ _ e => e, x.gens, x.os⟩
  · have := (x.hb b o' e).2 m
    unfold Mine.erase; split <;> first | rfl | exact this
  · obtain ⟨m, h1, h2⟩ := x.fr b ρ e
    exact ⟨m, h1, fun y v hy => let ⟨u, a, r⟩ := h2 y v hy; ⟨u, a, r.erase2 hI hc hT⟩⟩
  · have := x.fb b ρ e
    refine ⟨this.1, ?_, this.2.2⟩
    have h2 := this.2.1
    unfold Mine.erase; split <;> first | rfl | exact h2
end

def TW (p : Pm) (c : Cx) (ρ : LM) (H : HM) (ifs : List Expr) (Q : Bool → HM → Prop) : Prop := match ifs with
  | [] => Q true H
  | [t] => BW p c ρ H (isTrue t c.env (eval t c.env)) Q NX
  | _ => False

section
variable {p : Pm} {c : Cx} {ρ : LM} {H : HM} {Z Z₁ : GM} {Fo : FM} {s s' : Shared} {X : XQ} {Q : V → HM → Prop}
theorem XPost.no {u : Value} {P : Prop} (x : XPost p c Z Fo NX u s) : P := by
  obtain ⟨_, _, _, _, _, _, _, _, _, _, _, _, _, hx⟩ := x
  exact hx.elim

structure CompI (p : Pm) (c : Cx) (scope : Scope) (cl : List (Str × Addr)) (x : Str) (px : Pos) (ifs : List Expr) (elt : Expr) (items : List V) (H₂ : HM) (Inv : Nat → List V → HM → Prop) : Prop where
  len : items.length ≤ 1000000
  i0 : Inv 0 [] H₂
  dom : ∀ i acc H₃ b, Inv i acc H₃ → H₂ b = none → H₃ b = none
  turn : ∀ C i y acc H₃, p.g.objs.size ≤ C → items[i]? = some y → Inv i acc H₃ → H₃ C = none →
    U1 p (compCx c scope cl C) [] H₃ (fun u => assign (.Name x px) (compCx c scope cl C).env u) y (fun ρ₂ H₄ =>
      TW p (compCx c scope cl C) ρ₂ H₄ ifs (fun ok H₅ => if ok = true then EW p (compCx c scope cl C) ρ₂ H₅ (eval elt (compCx c scope cl C).env) (fun v H₆ => Inv (i + 1) (acc ++ [v]) H₆) NX else Inv (i + 1) acc H₅)) NX

theorem comp_core {elt iter : Expr} {x : Str} {px : Pos} {ifs : List Expr} {scope : Scope} {cl : List (Str × Addr)} {pos : Pos} {I : Addr} {S : Nat → Heap → Prop} {items : List V} {Inv : Nat → List V → HM → Prop} {RR : Value → Addr → Result → Shared → Prop} {E : Value → Shared → Prop}
    (hn : Now p c Z Fo ρ H s) (fr : Free p Z Fo H I) (it : Iter p Z I items S) (S0 : S 0 s.heap) (K : CompI p c scope cl x px ifs elt items H Inv)
    (hcell : ∀ y ∈ scope.names, y.2 ≠ .cell) (hkind : scope.kind = .function) (hL : p.g.objs.size ≤ c.L)
    (hRR : ∀ D C Z₃ H₃ acc s₃, Le Z Z₃ → StP p Z₃ (upd Fo C []) (upd H₃ D (.list acc)) s₃ → Fo C = none → D ≠ C → H₃ D = none → Inv items.length acc H₃ → acc.length ≤ items.length → RR (.ref D) C (.ok .next) s₃) :
    wpAny (M p) c.A (newList []) (fun acc s₃ => wpAny (M p) c.A (newFunctionEnv scope c.env.globals cl [] c.env.qual none .none (some c.env)) (fun cenv s₄ =>
      codeAny (M p) c.A (.compStart (.ListComp elt [⟨.Name x px, iter, ifs, 0⟩] scope pos) 0 (.ref I) acc { cenv with scope := relabel scope c.env }) (RR acc cenv.locals) s₄) E s₃) E s := by
  refine wpAny_newObj_type (wpAny_newFunctionEnv hcell (by intro y hy; simp at hy) (fun h₁ hns₁ hsb₁ => ?_) hkind)
  dsimp only at hns₁ hsb₁ ⊢
  have hh : c.A.handled = none := rfl
  have hlt : p.g.objs.size ≤ s.heap.objs.size := by
    obtain ⟨m, ⟨oo, _, _, h1, _⟩, _⟩ := hn.st.fr _ _ hn.lo
    exact Nat.le_trans hL (Nat.le_of_lt (Heap.lt_size h1))
  generalize hH2 : s.heap.push { cls := .type "list", dict := none, data := .seq ([] : List Value).toArray } = H2 at hns₁ hsb₁ ⊢
  have hC : H2.objs.size = s.heap.objs.size + 1 := by rw [← hH2, Heap.size_push]
  have hDC : s.heap.objs.size ≠ H2.objs.size := by rw [hC]; exact Nat.ne_of_lt (Nat.lt_succ_self _)
  have below : ∀ b, b < s.heap.objs.size → b ≠ H2.objs.size ∧ b ≠ s.heap.objs.size := fun b hb => ⟨by rw [hC]; exact Nat.ne_of_lt (Nat.lt_succ_of_lt hb), Nat.ne_of_lt hb⟩
  have old : ∀ b o, s.heap.get? b = some o → h₁.get? b = some o := fun b o e => hsb₁.extBut b o (below b (Heap.lt_size e)).1 (Heap.get?_push_of_some _ (hH2 ▸ Heap.get?_push_of_some _ e))
  have hacc : h₁.get? s.heap.objs.size = some (listOf ([] : List Value).toArray 0) := hsb₁.extBut _ _ hDC (Heap.get?_push_of_some _ (hH2 ▸ Heap.get?_push_size _ rfl))
  have fD := hn.st.freeOf (Heap.get?_none_of_le (h := s.heap) (Nat.le_refl s.heap.objs.size))
  have fC := hn.st.freeOf (Heap.get?_none_of_le (h := s.heap) (a := H2.objs.size) (by rw [hC]; exact Nat.le_succ _))
  have hID : I ≠ s.heap.objs.size := by
    obtain ⟨oI, T, ho, _⟩ := it.obj 0 _ S0
    exact Nat.ne_of_lt (Heap.lt_size ho)
  have hIC : I ≠ H2.objs.size := by
    obtain ⟨oI, T, ho, _⟩ := it.obj 0 _ S0
    rw [hC]; exact Nat.ne_of_lt (Nat.lt_succ_of_lt (Heap.lt_size ho))
  have hCg : p.g.objs.size ≤ H2.objs.size := by rw [hC]; exact Nat.le_succ_of_le hlt
  have nsC : h₁.Ns H2.objs.size fun x => ([] : List (Str × Value)).reverse.lookup x := hns₁
  generalize hDe : s.heap.objs.size = D at *
  generalize hCe : H2.objs.size = C at *
  have hFC : Fo C = none := fC.2.1
  have st₀ : StP p Z (upd Fo C []) H { s with heap := h₁, toks := s.toks + ([] : List (Str × Value)).length } := by
    refine ⟨fun b o e => old b o (hn.st.base b o e), fun b o e => old b o (hn.st.z b o e), hn.st.zb, fun b o e => (hn.st.own b o e).keep _ _ (Le.refl _) (fun o e => old b o e), hn.st.hb, fun b ρ' e => ?_, fun b ρ' e => ?_, fun _ _ e => e, hn.st.gens, hn.st.os⟩
    · by_cases hb : b = C
      · subst hb; rw [upd_same] at e; cases e; exact ⟨_, nsC, fun x v q => by cases q⟩
      · rw [upd_ne hb] at e
        obtain ⟨m, h1, h2⟩ := hn.st.fr b ρ' e
        exact ⟨m, h1.keeps old, h2⟩
    · by_cases hb : b = C
      · subst hb; exact ⟨fC.2.2.2, fC.1, fC.2.2.1⟩
      · rw [upd_ne hb] at e; exact hn.st.fb b ρ' e
  have fI₀ : Free p Z (upd Fo C []) H I := ⟨fr.1, by rw [upd_ne hIC]; exact fr.2.1, fr.2.2.1, fr.2.2.2⟩
  have fD₀ : Free p Z (upd Fo C []) H D := ⟨fD.1, by rw [upd_ne hDC]; exact fD.2.1, fD.2.2.1, fD.2.2.2⟩
  have frs : ∀ {ρ'}, FrOK (upd Fo C ρ') c.fr := fun {ρ'} => hn.fr.upd
  have S1 : S 0 h₁ := by
    obtain ⟨fp, wr, P, W, hP, hwr, hfp⟩ := it.walks
    exact (W c.A hh).frame _ _ _ S0 fun b _ o e => old b o e
  have loop : ∀ s₃ : Shared, s₃ = { s with heap := h₁, toks := s.toks + ([] : List (Str × Value)).length } →
      codeAny (M p) c.A (.compLoop (.ListComp elt [⟨.Name x px, iter, ifs, 0⟩] scope pos) 0 (.ref I) (.ref D) (compEnvC scope cl C c.env)) (RR (.ref D) C) s₃ := by
    rintro s₃ rfl
    refine codeAny_compLoop_tests (fun k s' => ∃ i Z₃ H₃ acc us m, k = items.length + 1 - i ∧ i ≤ items.length ∧ Le Z Z₃ ∧ StP p Z₃ (upd Fo C []) H₃ s' ∧ Free p Z₃ (upd Fo C []) H₃ I ∧ Free p Z₃ (upd Fo C []) H₃ D ∧ s'.heap.get? D = some (listOf us m) ∧ RepVs Z₃ acc us.toList ∧ acc.length ≤ i ∧ Iter p Z₃ I items S ∧ S i s'.heap ∧ Inv i acc H₃) ?_ (items.length + 1)
      ⟨0, Z, H, [], #[], 0, rfl, Nat.zero_le _, Le.refl _, st₀, fI₀, fD₀, hacc, .nil, Nat.le_refl _, it, S1, K.i0⟩
    rintro k s' ⟨i, Z₃, H₃, acc, us, m, rfl, hi, z3, st3, fI3, fD3, hD3, rep3, hal, it3, Si, hI⟩
    obtain ⟨fp, wr, P, W, hP, hwr, hfp⟩ := it3.walks
    have W := W c.A hh
    by_cases hlt : i < items.length
    · refine W.item i _ _ _ hlt Si fun xv h' tk hPx Si' hk => ?_
      obtain ⟨v, hv, rv⟩ := hP i xv hPx hlt
      have st4 := st3.but fI3 (h' := h') (tk := tk) fun b o hb e => hk b o (fun m => hb (hwr b m)) e
      have hD4 : h'.get? D = some (listOf us m) := hk D _ (fun m => hID (hwr D m).symm) hD3
      obtain ⟨oI, T, hoI, hcT, hT⟩ := it3.obj _ _ Si'
      obtain ⟨z5, st5⟩ := st4.adopt fI3 hoI
      have fD5 : Free p (upd Z₃ I oI) (upd Fo C []) H₃ D := ⟨by rw [upd_ne hID.symm]; exact fD3.1, fD3.2⟩
      obtain ⟨z6, st6⟩ := St.adopt st5 fD5 hD4
      have hZI6 : (upd (upd Z₃ I oI) D (listOf us m)) I = some oI := by rw [upd_ne hID]; exact upd_same ..
      have now6 : Now p (compCx c scope cl C) (upd (upd Z₃ I oI) D (listOf us m)) (upd Fo C []) [] H₃ { s' with heap := h', toks := tk } := ⟨st6, upd_same .., frs, hn.n⟩
      have hHC : H₃ C = none := K.dom _ _ _ C hI fC.2.2.1
      refine wpAny_mono (K.turn C i v acc H₃ hCg hv hI hHC _ _ _ xv now6 (rv.mono (z5.trans z6))) (fun _ s₇ ⟨Z₇, ρ₇, H₇, z7, st7, h7⟩ => ?_) (fun u s₂ e => e.no)
      have st7' : StP p Z₇ (upd Fo C ρ₇) H₇ s₇ := by
        have := st7; rwa [show (compCx c scope cl C).L = C from rfl, upd_upd] at this
      have now7 : Now p (compCx c scope cl C) Z₇ (upd Fo C ρ₇) ρ₇ H₇ s₇ := ⟨st7', upd_same .., frs, hn.n⟩
      have zz7 : Le (upd (upd Z₃ I oI) D (listOf us m)) Z₇ := z7
      have back : ∀ Z₈ H₈ s₈, Le (upd (upd Z₃ I oI) D (listOf us m)) Z₈ → StP p Z₈ (upd Fo C ρ₇) H₈ s₈ → (∃ acc', Inv (i + 1) acc' H₈) →
          Le Z₃ (Mine.erase (Mine.erase Z₈ D) I) ∧ StP p (Mine.erase (Mine.erase Z₈ D) I) (upd Fo C []) H₈ s₈ ∧ Free p (Mine.erase (Mine.erase Z₈ D) I) (upd Fo C []) H₈ I ∧ Free p (Mine.erase (Mine.erase Z₈ D) I) (upd Fo C []) H₈ D ∧
          s₈.heap.get? D = some (listOf us m) ∧ S (i + 1) s₈.heap ∧ (∀ v u, RepV Z₈ v u → RepV (Mine.erase (Mine.erase Z₈ D) I) v u) := fun Z₈ H₈ s₈ z8 st8 ⟨acc', hI8⟩ => by
        have hZD : Z₈ D = some (listOf us m) := z8 _ _ (upd_same ..)
        have hZI : Z₈ I = some oI := z8 _ _ hZI6
        have hHD : H₈ D = none := K.dom _ _ _ D hI8 fD.2.2.1
        obtain ⟨fD9, st9⟩ := st8.erase2 hZD rfl (by decide : "list" ∈ hideTypes) hHD
        have hZI9 : (Mine.erase Z₈ D) I = some oI := by rw [erase_ne hID]; exact hZI
        obtain ⟨fI10, st10⟩ := St.erase st9 hZI9 hcT hT
        have less : StP p (Mine.erase (Mine.erase Z₈ D) I) (upd Fo C []) H₈ s₈ := st10.less fun b ρ₁ e => by
          by_cases hb : b = C
          · subst hb; rw [upd_same] at e; cases e; exact ⟨ρ₇, upd_same .., fun y v q => by cases q⟩
          · rw [upd_ne hb] at e; exact ⟨ρ₁, by rw [upd_ne hb]; exact e, fun _ _ h => h⟩
        have noF : ∀ b, b ≠ C → upd Fo C ρ₇ b = none → upd Fo C [] b = none := fun b hb e => by rw [upd_ne hb] at e ⊢; exact e
        refine ⟨fun b o e => ?_, less, ⟨fI10.1, noF I hIC fI10.2.1, fI10.2.2⟩, ⟨?_, noF D hDC fD9.2.1, fD9.2.2⟩, st8.z _ _ hZD, ?_, fun v u r => (r.erase2 hZD rfl (by decide : "list" ∈ hideTypes)).erase hZI9 hcT hT⟩
        · have hbI : b ≠ I := fun q => by rw [q, fI3.1] at e; cases e
          have hbD : b ≠ D := fun q => by rw [q, fD3.1] at e; cases e
          rw [erase_ne hbI, erase_ne hbD]
          exact z8 _ _ (by rw [upd_ne hbD, upd_ne hbI]; exact e)
        · rw [erase_ne hID.symm]; exact erase_same ..
        · refine W.frame _ _ _ Si' fun b hb o e => ?_
          rcases hfp b hb with rfl | ⟨o', ho'⟩
          · rw [hoI] at e; cases e; exact st8.z _ _ hZI
          · have e1 := st8.z _ _ (z8 _ _ (z6 _ _ (z5 _ _ ho')))
            have e2 := st6.z _ _ (z6 _ _ (z5 _ _ ho'))
            rw [show h'.get? b = some o' from e2] at e
            cases e; exact e1
      have fin : ∀ (ok : Bool) H₅ Z₈ s₈, (if ok = true then EW p (compCx c scope cl C) ρ₇ H₅ (eval elt (compCx c scope cl C).env) (fun v H₆ => Inv (i + 1) (acc ++ [v]) H₆) NX else Inv (i + 1) acc H₅) → Le Z₇ Z₈ → StP p Z₈ (upd Fo C ρ₇) H₅ s₈ →
          (if ok = true then wpAny (M p) c.A (eval elt (compEnvC scope cl C c.env)) (fun x s₄ => wpAny (M p) c.A (call (.builtin "list.append") [.ref D, x]) (fun _ s₅ => ∃ m, m < items.length + 1 - i ∧ ∃ i Z₃ H₃ acc us m', m = items.length + 1 - i ∧ i ≤ items.length ∧ Le Z Z₃ ∧ StP p Z₃ (upd Fo C []) H₃ s₅ ∧ Free p Z₃ (upd Fo C []) H₃ I ∧ Free p Z₃ (upd Fo C []) H₃ D ∧ s₅.heap.get? D = some (listOf us m') ∧ RepVs Z₃ acc us.toList ∧ acc.length ≤ i ∧ Iter p Z₃ I items S ∧ S i s₅.heap ∧ Inv i acc H₃)
              (notedBy (M p) c.A (compEnvC scope cl C c.env) fun e s' => RR (.ref D) C (.error e) s') s₄) (notedBy (M p) c.A (compEnvC scope cl C c.env) fun e s' => RR (.ref D) C (.error e) s') s₈
            else ∃ m, m < items.length + 1 - i ∧ ∃ i Z₃ H₃ acc us m', m = items.length + 1 - i ∧ i ≤ items.length ∧ Le Z Z₃ ∧ StP p Z₃ (upd Fo C []) H₃ s₈ ∧ Free p Z₃ (upd Fo C []) H₃ I ∧ Free p Z₃ (upd Fo C []) H₃ D ∧ s₈.heap.get? D = some (listOf us m') ∧ RepVs Z₃ acc us.toList ∧ acc.length ≤ i ∧ Iter p Z₃ I items S ∧ S i s₈.heap ∧ Inv i acc H₃) := fun ok H₅ Z₈ s₈ h5 z8 st8 => by
        cases ok with
        | false =>
          simp only [Bool.false_eq_true, if_false] at h5 ⊢
          obtain ⟨b1, b2, b3, b4, b5, b6, b7⟩ := back Z₈ H₅ s₈ (z7.trans z8) st8 ⟨acc, h5⟩
          exact ⟨items.length + 1 - (i + 1), by omega, i + 1, _, H₅, acc, us, m, rfl, hlt, z3.trans b1, b2, b3, b4, b5, rep3.mono b1, by omega, it3.mono b1, b6, h5⟩
        | true =>
          simp only [if_true] at h5 ⊢
          have now8 : Now p (compCx c scope cl C) Z₈ (upd Fo C ρ₇) ρ₇ H₅ s₈ := ⟨st8, upd_same .., frs, hn.n⟩
          refine wpAny_mono (h5 Z₈ _ s₈ now8) (fun u s₉ ⟨Z₉, H₉, v9, z9, st9, r9, h9⟩ => ?_) (fun u s₂ e => e.no)
          obtain ⟨b1, b2, b3, b4, b5, b6, b7⟩ := back Z₉ H₉ s₉ ((z7.trans z8).trans z9) st9 ⟨_, h9⟩
          have hus : us.size = acc.length := by have := rep3.1; simp at this; exact this.symm
          have hl5 : s₉.heap.IsList D us := ⟨_, b5, rfl, m, rfl⟩
          have hlen := K.len
          refine call_meets F.slot_list_append hl5.typeIs F.entry_list_append (F.args_list_append_2 _ _) (list_append D us m u (by rw [sizeLine_eq]; omega)) ⟨b5, ?_⟩
          have hD9 := IsL.update (h := s₉.heap) (l := D) b5 (·.push u)
          have st11 := b2.but b4 (h' := s₉.heap.update D (Obj.mapSeq fun x => x.push u)) (tk := s₉.toks) fun b o hb e => by rw [Heap.get?_update_other _ _ (Ne.symm hb)]; exact e
          refine ⟨items.length + 1 - (i + 1), by omega, i + 1, _, H₉, acc ++ [v9], us.push u, _, rfl, hlt, z3.trans b1, st11, b3, b4, hD9, ?_, by simp; omega, it3.mono b1, ?_, h9⟩
          · rw [Array.toList_push]; exact (rep3.mono b1).append (.cons (b7 _ _ r9) .nil)
          · refine W.frame _ _ _ b6 fun b hb o e => ?_
            have hbD : b ≠ D := fun q => by
              rcases hfp b hb with h | ⟨o', ho'⟩
              · exact hID (h.symm.trans q)
              · rw [q, fD3.1] at ho'; cases ho'
            show (s₉.heap.update D _).get? b = some o
            rw [Heap.get?_update_other _ _ (Ne.symm hbD)]; exact e
      match ifs, h7 with
      | [], h7 => exact wpAny_tests_nil (fin true H₇ Z₇ s₇ h7 (Le.refl _) st7')
      | [t], h7 =>
        refine wpAny_tests_one (wpAny_mono (h7 Z₇ _ s₇ now7) (fun ok s₈ ⟨Z₈, H₈, z8, st8, h8⟩ => fin ok H₈ Z₈ s₈ h8 z8 st8) (fun u s₂ e => e.no))
      | _ :: _ :: _, h7 => exact h7.elim
    · have hie : i = items.length := by omega
      subst hie
      refine W.done _ _ _ Si fun h' tk hk => ?_
      have st4 := st3.but fI3 (h' := h') (tk := tk) fun b o hb e => hk b o (fun m => hb (hwr b m)) e
      have hD4 : h'.get? D = some (listOf us m) := hk D _ (fun m => hID (hwr D m).symm) hD3
      exact hRR D C Z₃ H₃ acc _ z3 (St.claim st4 fD3 ⟨us.toList, m, by simpa using hD4, rep3⟩) hFC hDC fD3.2.2.1 hI hal
  exact codeAny_compStart_list (loop _ rfl) (by
    obtain ⟨fp, wr, P, W, hP, hwr, hfp⟩ := it.walks
    exact (W c.A hh).self 0 _ _ _ S1 (loop _ rfl))
theorem but_C {Z₃ : GM} {H₃ : HM} {C : Addr} {s₃ : Shared} (st : StP p Z₃ (upd Fo C []) H₃ s₃) (hF : Fo C = none) {h' : Heap} (hs : Heap.SameBut C s₃.heap h') : StP p Z₃ Fo H₃ { s₃ with heap := h' } := by
  have hfC := st.fb C [] (upd_same ..)
  have less : StP p Z₃ Fo H₃ s₃ := st.less fun b ρ₁ e => ⟨ρ₁, by rw [upd_ne (fun q => by rw [q, hF] at e; cases e)]; exact e, fun _ _ h => h⟩
  exact less.but (tk := s₃.toks) ⟨hfC.2.1, hF, hfC.2.2, hfC.1⟩ fun b o hb e => hs.extBut b o hb e

theorem E_ListComp {elt iter : Expr} {x : Str} {px : Pos} {ifs : List Expr} {scope : Scope} {cl : List (Str × Addr)} {pos : Pos} (hclos : closureFor scope c.env = pure cl)
    (h : EW p c ρ H (eval iter c.env) (fun v H₁ => IterW p c v H₁ (fun items H₂ => ∃ Inv, CompI p c scope cl x px ifs elt items H₂ Inv ∧
      ∀ acc H₃ D, Inv items.length acc H₃ → H₃ D = none → acc.length ≤ items.length → Q (.ref D) (upd H₃ D (.list acc)))) X)
    (hL : p.g.objs.size ≤ c.L) (hcell : scope.names.all (fun y => decide (y.2 ≠ .cell)) = true := by decide) (hkind : scope.kind = .function := by rfl)
    (hnames : scope.names.all (fun y => decide (y.2 = .local → scope.names.lookup y.1 = some .local)) = true := by decide)
    (hs : ∀ x, foldedSetIterable iter c.env x = pure x := by intro _; with_unfolding_all rfl) : EW p c ρ H (eval (.ListComp elt [⟨.Name x px, iter, ifs, 0⟩] scope pos) c.env) Q X := fun Z Fo s hn => by
  simp only [List.all_eq_true, decide_eq_true_eq] at hcell hnames
  rw [eval_ListComp]
  refine wpAny_comprehension_free (use := none) rfl hs hclos hkind hnames (wpAny_mono (h Z Fo s hn) (fun u s₁ ⟨Z₁, H₁, v, z1, st1, r1, h1⟩ => wpAny_mono (h1 ρ Z₁ Fo s₁ u (hn.step st1) r1) (fun itv s₂ ⟨Z₂, I, S, items, H₂, hit, z2, st2, fr2, it2, S0, Inv, K, hQ⟩ => ?_) fun _ _ e => e.elim) fun _ _ e => e)
  subst hit
  refine comp_core (RR := fun acc C => compPost (M p) c.A (XPost p c Z Fo X) none (EPost p Z Fo Q) acc C) ((hn.step st1).step st2) fr2 it2 S0 K hcell hkind hL fun D C Z₃ H₃ acc s₃ z3 st3 hF hDC hHD hI hal => ?_
  obtain ⟨m, hns, _⟩ := st3.fr C [] (upd_same ..)
  exact ⟨m, hns, fun h' hs' => ⟨Z₃, _, _, (z1.trans z2).trans z3, but_C st3 hF hs', .ref _, hQ acc H₃ D hI hHD hal⟩⟩

theorem K_AssignComp {elt iter : Expr} {x y : Str} {px py : Pos} {ifs : List Expr} {scope : Scope} {cl : List (Str × Addr)} {pos spos : Pos} {Q : AF → LM → HM → Prop} {rest : List Stmt} (hclos : closureFor scope c.env = pure cl)
    (h : EW p c ρ H (eval iter c.env) (fun v H₁ => IterW p c v H₁ (fun items H₂ => ∃ Inv, CompI p c scope cl x px ifs elt items H₂ Inv ∧
      ∀ acc H₃ D, Inv items.length acc H₃ → H₃ D = none → acc.length ≤ items.length → U1 p c ρ (upd H₃ D (.list acc)) (fun u => assign (.Name y py) c.env u) (.ref D) (fun ρ₂ H₂ => SW p c ρ₂ H₂ (execs rest c.env) Q X) NX)) X)
    (hsw : swapsWith (.ListComp elt [⟨.Name x px, iter, ifs, 0⟩] scope pos) (some (.Name y py)) spos.line c.env = pure true)
    (hL : p.g.objs.size ≤ c.L) (hcell : scope.names.all (fun y => decide (y.2 ≠ .cell)) = true := by decide) (hkind : scope.kind = .function := by rfl)
    (hnames : scope.names.all (fun y => decide (y.2 = .local → scope.names.lookup y.1 = some .local)) = true := by decide)
    (hs : ∀ x, foldedSetIterable iter c.env x = pure x := by intro _; with_unfolding_all rfl) : SW p c ρ H (execs (.Assign [.Name y py] (.ListComp elt [⟨.Name x px, iter, ifs, 0⟩] scope pos) spos :: rest) c.env) Q X := by
  simp only [List.all_eq_true, decide_eq_true_eq] at hcell hnames
  refine S_cons fun Z Fo s hn => ?_
  rw [exec_Assign_Name_used _ _ _ _ hsw]
  refine wpAny_bind (wpAny_standAt (wpAny_bind ?_))
  show wpAny _ c.A (do let _ ← comprehension (.ListComp elt [⟨.Name x px, iter, ifs, 0⟩] scope pos) scope c.env _ (newList []) false (eval iter c.env) (some (assign (.Name y py) c.env))) _ _ s
  refine wpAny_bind (wpAny_mono (wpAny_comprehension_free (use := some (assign (.Name y py) c.env)) (Q := fun _ s' => SPost p c Z Fo (fun f ρ₁ H₁ => match f with | .next => SW p c ρ₁ H₁ (execs rest c.env) Q X | f => Q f ρ₁ H₁) .next s') rfl hs hclos hkind hnames
    (wpAny_mono (h Z Fo s hn) (fun u s₁ ⟨Z₁, H₁, v, z1, st1, r1, h1⟩ => wpAny_mono (h1 ρ Z₁ Fo s₁ u (hn.step st1) r1) (fun itv s₂ ⟨Z₂, I, S, items, H₂, hit, z2, st2, fr2, it2, S0, Inv, K, hQ⟩ => ?_) fun _ _ e => e.elim) fun _ _ e => e)) (fun _ s' hq => wpAny_pure (wpAny_pure hq)) fun _ _ e => e)
  subst hit
  refine comp_core (RR := fun acc C => compPost (M p) c.A (XPost p c Z Fo X) (some (assign (.Name y py) c.env)) (fun _ s' => SPost p c Z Fo (fun f ρ₁ H₁ => match f with | .next => SW p c ρ₁ H₁ (execs rest c.env) Q X | f => Q f ρ₁ H₁) .next s') acc C) ((hn.step st1).step st2) fr2 it2 S0 K hcell hkind hL fun D C Z₃ H₃ acc s₃ z3 st3 hF hDC hHD hI hal => ?_
  have hCL : c.L ≠ C := fun q => by have := hn.lo; rw [q, hF] at this; cases this
  have now3 : Now p c Z₃ (upd Fo C []) ρ (upd H₃ D (.list acc)) s₃ := ⟨st3, by rw [upd_ne hCL]; exact hn.lo, hn.fr.upd, hn.n⟩
  refine wpAny_mono (hQ acc H₃ D hI hHD hal Z₃ _ s₃ (.ref D) now3 (.ref _)) (fun _ s₄ ⟨Z₄, ρ₄, H₄, z4, st4, h4⟩ => ?_) (fun u s₂ e => e.no)
  rw [upd_comm _ _ _ hCL.symm] at st4
  obtain ⟨m, hns, _⟩ := st4.fr C [] (upd_same ..)
  exact ⟨m, hns, fun h' hs' => ⟨Z₄, ρ₄, H₄, .next, ((z1.trans z2).trans z3).trans z4, but_C st4 (by rw [upd_ne hCL.symm]; exact hF) hs', .next, h4⟩⟩
end
end TextL27
section TextL28
open PySem PySem.W PyProof.Rows PySem.Calls PySem.MeetsSeq
theorem lookup_relabel {env : Env} : ∀ {names : List (Str × NameKind)} {x : Str} {k : NameKind}, names.lookup x = some k →
    (names.map fun (n, k) => if (k == NameKind.free && env.scope.kind == .function && env.kindOf n == some .cell) = true then (n, NameKind.cell) else (n, k)).lookup x =
      some (if (k == NameKind.free && env.scope.kind == .function && env.kindOf x == some .cell) = true then .cell else k)
  | [], _, _, h => by simp at h
  | (n, k') :: r, x, k, h => by
    have ih := @lookup_relabel env r x k
    rw [List.map_cons, List.lookup_cons]
    cases hx : x == n with
    | true =>
      have e : x = n := by simpa using hx
      subst e
      simp only [List.lookup_cons, beq_self_eq_true] at h
      injection h with h
      subst h
      dsimp only
      by_cases hc : (k' == NameKind.free && env.scope.kind == .function && env.kindOf x == some .cell) = true
      · rw [if_pos hc, if_pos hc]; simp
      · rw [if_neg hc, if_neg hc]; simp
    | false =>
      simp only [List.lookup_cons, hx] at h
      dsimp only
      by_cases hc : (k' == NameKind.free && env.scope.kind == .function && env.kindOf n == some .cell) = true
      · rw [if_pos hc]; simp only [hx]; exact ih h
      · rw [if_neg hc]; simp only [hx]; exact ih h
def scopeL (names : List (Str × NameKind)) (xs gs : List Str) : Bool :=
  decide xs.Nodup && xs.all (fun x => decide (names.lookup x = some .local) && !(x == "__debug__")) && gs.all (fun x => decide (names.lookup x = some .globalImplicit) && !(x == "__debug__") && !(x == "__name__"))
section
variable {p : Pm} {n : Nat} {c : Cx} {ρ : LM} {H : HM} {X : XQ} {Q : V → HM → Prop} {Qu : LM → HM → Prop} {Z : GM} {Fo : FM} {s : Shared}
theorem FnComp {xs0 gs0 : List Str} (F : Fn p n c xs0 gs0) {scope : Scope} {cl : List (Str × Addr)} {C : Addr} {xs gs : List Str} (hC : p.g.objs.size ≤ C) (hsc : scopeL scope.names xs gs = true := by decide +kernel) (hk : scope.kind = .function := by rfl)
    (hgen : scope.isGenerator = false := by rfl) (hco : scope.isCoroutine = false := by rfl) : Fn p n (compCx c scope cl C) xs gs := by
  simp only [scopeL, Bool.and_eq_true, decide_eq_true_eq, List.all_eq_true, Bool.not_eq_true'] at hsc
  obtain ⟨⟨s1, s3⟩, s4⟩ := hsc
  refine ⟨hk, F.glob, F.boot, s1, fun x hx => ⟨?_, (s3 x hx).2⟩, fun x hx => ⟨?_, (s4 x hx).1.2, fun e => ?_⟩, hgen, hco, hC, F.n⟩
  · exact lookup_relabel (env := c.env) (s3 x hx).1
  · exact lookup_relabel (env := c.env) (s4 x hx).1.1
  · have := (s4 x hx).2; subst e; cases this
theorem CeComp {xs0 gs0 : List Str} (F : Fn p n c xs0 gs0) {scope : Scope} {cl : List (Str × Addr)} {C : Addr} {x : Str} {a : Addr} (E : Ce c x a) (hf : scope.names.lookup x = some .free := by rfl) (hcl : cl.lookup x = some a := by rfl) : Ce (compCx c scope cl C) x a := by
  refine ⟨hcl, ?_, E.nd⟩
  have := lookup_relabel (env := c.env) hf
  have e : (NameKind.free == NameKind.free && c.env.scope.kind == .function && c.env.kindOf x == some .cell) = true := by rw [F.kind, E.kind]; rfl
  rw [if_pos e] at this
  exact this

theorem dict0_new (hn : Now p c Z Fo ρ H s) : ∃ (hH : H s.heap.objs.size = none), StP p Z Fo (upd H s.heap.objs.size (.dint [])) { s with heap := s.heap.push { cls := .type "dict", data := .dict #[] } } ∧ StP p Z Fo (upd H s.heap.objs.size (.dstr [])) { s with heap := s.heap.push { cls := .type "dict", data := .dict #[] } } := by
  have hnone : s.heap.get? s.heap.objs.size = none := Heap.get?_none_of_le (Nat.le_refl _)
  have d1 : (s.heap.push { cls := .type "dict", dict := none, data := .dict #[] }).DictOf (intKind p.prog p.w) s.heap.objs.size [] := Heap.DictOf.new s.heap
  have d2 : (s.heap.push { cls := .type "dict", dict := none, data := .dict #[] }).DictOf (PySem.strKind p.prog p.w) s.heap.objs.size [] := Heap.DictOf.new s.heap
  obtain ⟨hH, hZ, hF, st1⟩ := hn.st.new (tk := s.toks) (o' := .dint []) hnone (fun b o e => Heap.get?_push_of_some _ e) ⟨[], d1, .nil⟩
  obtain ⟨_, _, _, st2⟩ := hn.st.new (tk := s.toks) (o' := .dstr []) hnone (fun b o e => Heap.get?_push_of_some _ e) ⟨[], d2, .nil⟩
  exact ⟨hH, st1, st2⟩
theorem E_Dict0I {pos : Pos} (h : ∀ D, H D = none → Q (.ref D) (upd H D (.dint []))) : EW p c ρ H (eval (.Dict [] [] pos) c.env) Q X := fun Z Fo s hn => by
  obtain ⟨hH, st1, st2⟩ := dict0_new hn
  exact wpAny_Dict_empty ⟨Z, _, _, Le.refl _, st1, .ref _, h _ hH⟩
theorem E_Dict0S {pos : Pos} (h : ∀ D, H D = none → Q (.ref D) (upd H D (.dstr []))) : EW p c ρ H (eval (.Dict [] [] pos) c.env) Q X := fun Z Fo s hn => by
  obtain ⟨hH, st1, st2⟩ := dict0_new hn
  exact wpAny_Dict_empty ⟨Z, _, _, Le.refl _, st2, .ref _, h _ hH⟩
theorem E_Dict1I {k : Int} {kk : Nat} {kp pos : Pos} {e : Expr} (h : ∀ D, H D = none → EW p c ρ (upd H D (.dint [])) (eval e c.env) (fun v H₁ => H₁ D = some (.dint []) ∧ Q (.ref D) (upd H₁ D (.dint [(k, v)]))) X) :
    EW p c ρ H (eval (.Dict [some (.Constant (.int k) kk kp)] [e] pos) c.env) Q X := fun Z Fo s hn => by
  obtain ⟨hH, st1, st2⟩ := dict0_new hn
  have hn1 := hn.step st1
  refine wpAny_Dict_pairs (knd := intKind p.prog p.w) (pairs := [(eval (.Constant (.int k) kk kp) c.env, do let x ← eval e c.env; standAt pos; pure x)]) rfl (by simp) (by simp) (evalPairs_cons ?_)
  refine wpAny_mono (E_int (p := p) (ρ := ρ) (X := X) (Q := fun v H₁ => v = .int k ∧ H₁ = upd H s.heap.objs.size (.dint [])) ⟨rfl, rfl⟩ Z Fo _ hn1) (fun kv s₁ ⟨Z₁, H₁, v1, z1, st1, r1, hv, hH1⟩ => ?_) fun _ _ e => e
  subst hv hH1
  cases r1
  refine wpAny_bind (wpAny_mono (h _ hH Z₁ Fo s₁ (hn1.step st1)) (fun u s₂ ⟨Z₂, H₂, v, z2, st2, r2, hD, hq⟩ => wpAny_bind (wpAny_standAt (wpAny_pure (evalPairs_nil ?_)))) fun _ _ e => e.mono z1)
  obtain ⟨kvs, hd, rr⟩ := st2.own _ _ hD
  rw [rr.inv_nil] at hd
  refine ⟨[(k, u)], ⟨by simp [intKind, Value.isInt], rfl, trivial⟩, hd, fun h' hm' hs' => ?_⟩
  refine ⟨Z₂, _, _, z1.trans z2, st2.put (o' := .dint [(k, v)]) (tk := s₂.toks + 1) hD hs'.extBut ⟨_, hm', ?_⟩, .ref _, hq⟩
  exact RepKV.cons r2 .nil
theorem E_Dict2S {k1 k2 : Str} {kk kk' : Nat} {kp kp' pos : Pos} {e1 e2 : Expr} (hne : k1 ≠ k2) (h : ∀ D, H D = none → EW p c ρ (upd H D (.dstr [])) (eval e1 c.env) (fun v1 H₁ => EW p c ρ H₁ (eval e2 c.env) (fun v2 H₂ => H₂ D = some (.dstr []) ∧ Q (.ref D) (upd H₂ D (.dstr [(k1, v1), (k2, v2)]))) X) X) :
    EW p c ρ H (eval (.Dict [some (.Constant (.str k1) kk kp), some (.Constant (.str k2) kk' kp')] [e1, e2] pos) c.env) Q X := fun Z Fo s hn => by
  obtain ⟨hH, -, st0⟩ := dict0_new hn
  have hn0 := hn.step st0
  refine wpAny_Dict_pairs (knd := PySem.strKind p.prog p.w) (pairs := [(eval (.Constant (.str k1) kk kp) c.env, do let x ← eval e1 c.env; standAt pos; pure x), (eval (.Constant (.str k2) kk' kp') c.env, do let x ← eval e2 c.env; standAt pos; pure x)]) rfl (by simp) (by simp) (evalPairs_cons ?_)
  refine wpAny_mono (E_str (p := p) (ρ := ρ) (X := X) (Q := fun v H₁ => v = .str k1 ∧ H₁ = upd H s.heap.objs.size (.dstr [])) ⟨rfl, rfl⟩ Z Fo _ hn0) (fun kv s₁ ⟨Z₁, H₁, v1, z1, st1, r1, hv, hH1⟩ => ?_) fun _ _ e => e
  subst hv hH1
  cases r1
  refine wpAny_bind (wpAny_mono (h _ hH Z₁ Fo s₁ (hn0.step st1)) (fun u s₂ ⟨Z₂, H₂, v, z2, st2, r2, h2⟩ => wpAny_bind (wpAny_standAt (wpAny_pure (evalPairs_cons ?_)))) fun _ _ e => e.mono z1)
  have hn2 := (hn0.step st1).step st2
  refine wpAny_mono (E_str (p := p) (ρ := ρ) (X := X) (Q := fun v H₁ => v = .str k2 ∧ H₁ = H₂) ⟨rfl, rfl⟩ Z₂ Fo _ hn2) (fun kv' s₃ ⟨Z₃, H₃, v3, z3, st3, r3, hv3, hH3⟩ => ?_) fun _ _ e => e.mono (z1.trans z2)
  subst hv3 hH3
  cases r3
  refine wpAny_bind (wpAny_mono (h2 Z₃ Fo s₃ (hn2.step st3)) (fun u4 s₄ ⟨Z₄, H₄, v4, z4, st4, r4, hD, hq⟩ => wpAny_bind (wpAny_standAt (wpAny_pure (evalPairs_nil ?_)))) fun _ _ e => e.mono ((z1.trans z2).trans z3))
  obtain ⟨kvs, hd, rr⟩ := st4.own _ _ hD
  rw [rr.inv_nil] at hd
  refine ⟨[(k1, u), (k2, u4)], ⟨by simp [PySem.strKind, Value.isStrOf], rfl, by simp [PySem.strKind, Value.isStrOf], rfl, trivial⟩, hd, fun h' hm' hs' => ?_⟩
  refine ⟨Z₄, _, _, ((z1.trans z2).trans z3).trans z4, st4.put (o' := .dstr [(k1, v), (k2, v4)]) (tk := s₄.toks + 2) hD hs'.extBut ⟨_, hm', ?_⟩, .ref _, hq⟩
  have e : merged ([] : List (Str × Value)) [(k1, u), (k2, u4)] = [(k1, u), (k2, u4)] := by simp [merged, stored, hne]
  rw [e]
  exact RepKV.cons (r2.mono (z3.trans z4)) (RepKV.cons r4 .nil)

theorem Now.frzI {E : Addr} {es : List (Int × V)} (hn : Now p c Z Fo ρ H s) (hE : H E = some (.dint es)) : ∃ Z', Le Z Z' ∧ Now p c Z' Fo ρ (upd H E (.fdint es)) s := by
  obtain ⟨Z', z, st⟩ := St.freezeInt hn.st hE
  exact ⟨Z', z, st, hn.lo, hn.fr, hn.n⟩
theorem Now.frzS {E : Addr} {es : List (Str × V)} (hn : Now p c Z Fo ρ H s) (hE : H E = some (.dstr es)) : ∃ Z', Le Z Z' ∧ Now p c Z' Fo ρ (upd H E (.fdstr es)) s := by
  obtain ⟨Z', z, st⟩ := St.freezeStr hn.st hE
  exact ⟨Z', z, st, hn.lo, hn.fr, hn.n⟩
theorem Now.frzL {E : Addr} {es : List V} (hn : Now p c Z Fo ρ H s) (hE : H E = some (.list es)) : ∃ Z', Le Z Z' ∧ Now p c Z' Fo ρ (upd H E (.flist es)) s := by
  obtain ⟨Z', z, st⟩ := St.freezeList hn.st hE
  exact ⟨Z', z, st, hn.lo, hn.fr, hn.n⟩
def Frz (H : HM) (E : Addr) (o : AObj) : Prop := (∃ es, H E = some (.dint es) ∧ o = .fdint es) ∨ (∃ es, H E = some (.dstr es) ∧ o = .fdstr es) ∨ (∃ es, H E = some (.list es) ∧ o = .flist es)
theorem Now.frz {E : Addr} {o : AObj} (hn : Now p c Z Fo ρ H s) (hE : Frz H E o) : ∃ Z', Le Z Z' ∧ Now p c Z' Fo ρ (upd H E o) s := by
  rcases hE with ⟨es, h, rfl⟩ | ⟨es, h, rfl⟩ | ⟨es, h, rfl⟩
  · exact hn.frzI h
  · exact hn.frzS h
  · exact hn.frzL h
theorem SW.frz {E : Addr} {o : AObj} {t : Sem Flow} {Q : AF → LM → HM → Prop} (hE : Frz H E o) (h : SW p c ρ (upd H E o) t Q X) : SW p c ρ H t Q X := fun Z Fo s hn => by
  obtain ⟨Z', z, hn'⟩ := hn.frz hE
  exact toE z (h Z' Fo s hn') fun _ _ e => e.le z
theorem EW.frz {E : Addr} {o : AObj} {t : Sem Value} (hE : Frz H E o) (h : EW p c ρ (upd H E o) t Q X) : EW p c ρ H t Q X := fun Z Fo s hn => by
  obtain ⟨Z', z, hn'⟩ := hn.frz hE
  exact toE z (h Z' Fo s hn') fun _ _ e => e.le z
theorem EWs.frz {E : Addr} {o : AObj} {t : Sem (List Value)} {Q : List V → HM → Prop} (hE : Frz H E o) (h : EWs p c ρ (upd H E o) t Q X) : EWs p c ρ H t Q X := fun Z Fo s hn => by
  obtain ⟨Z', z, hn'⟩ := hn.frz hE
  exact toE z (h Z' Fo s hn') fun _ _ e => e.le z
theorem Os.frz {E : Addr} {o : AObj} {f : List Value → Sem Value} {vs : List V} (hE : Frz H E o) (h : Os p c ρ (upd H E o) f vs Q X) : Os p c ρ H f vs Q X := fun Z Fo s us hn r => by
  obtain ⟨Z', z, hn'⟩ := hn.frz hE
  exact toE z (h Z' Fo s us hn' (r.mono z)) fun _ _ e => e.le z
theorem U1.frz {E : Addr} {o : AObj} {f : Value → Sem Unit} {v : V} (hE : Frz H E o) (h : U1 p c ρ (upd H E o) f v Qu X) : U1 p c ρ H f v Qu X := fun Z Fo s u hn r => by
  obtain ⟨Z', z, hn'⟩ := hn.frz hE
  exact toE z (h Z' Fo s u hn' (r.mono z)) fun _ _ e => e.le z
theorem Now.drop {H' : HM} (hn : Now p c Z Fo ρ H s) (k : Le H' H) : Now p c Z Fo ρ H' s := ⟨St.drop hn.st k, hn.lo, hn.fr, hn.n⟩
theorem SW.drop {H' : HM} {t : Sem Flow} {Q : AF → LM → HM → Prop} (k : Le H' H) (h : SW p c ρ H' t Q X) : SW p c ρ H t Q X := fun Z Fo s hn => h Z Fo s (hn.drop k)
theorem EW.drop {H' : HM} {t : Sem Value} (k : Le H' H) (h : EW p c ρ H' t Q X) : EW p c ρ H t Q X := fun Z Fo s hn => h Z Fo s (hn.drop k)
theorem Os.drop {H' : HM} {f : List Value → Sem Value} {vs : List V} (k : Le H' H) (h : Os p c ρ H' f vs Q X) : Os p c ρ H f vs Q X := fun Z Fo s us hn r => h Z Fo s us (hn.drop k) r
theorem CW.dropped {n : Nat} {f : Value} {vs : List V} {Xc : Addr → LM → HM → Prop} (h : CW p n f vs H (fun v H₁ => ∃ H₂, Le H₂ H₁ ∧ Q v H₂) Xc) : CW p n f vs H Q Xc := fun c ρ hc hL Z Fo s us hnow r =>
  codeAny_mono (h c ρ hc hL Z Fo s us hnow r) (fun r s' => by
    rcases r with e | (v | _ | _ | _) <;> intro z
    · exact z
    · exact z
    · exact z
    · exact z
    · obtain ⟨Z', H', v, h1, h2, h3, H₂, k, h4⟩ := z; exact ⟨Z', H₂, v, h1, St.drop h2 k, h3, h4⟩)

variable {E : Addr} {es : List (Str × V)}
theorem U_set_dstr {k : Str} {v : V} (hE : H E = some (.dstr es)) (hl : es.length ≤ 16000000) (h : Qu ρ (upd H E (.dstr (gst es k v)))) : U3 p c ρ H setItem (.ref E) (.str k) v Qu X := fun Z Fo s u w x hn r1 r2 r3 => by
  obtain ⟨kvs, hd, r⟩ := hn.st.own E _ hE
  cases r1; cases r2
  refine wpAny_setItem_pairs (knd := PySem.strKind p.prog p.w) (k := k) (hsz := by rw [← r.len, sizeLine_eq]; omega) (by simp [PySem.strKind, Value.isStrOf]) hd fun h' hmm hs => ?_
  refine ⟨Z, ρ, _, Le.refl _, ?_, h⟩
  rw [upd_self hn.lo]
  exact hn.st.put hE hs.extBut ⟨_, hmm, r.put r3⟩
theorem O_item_fdstr {o i : Expr} {k : Str} {v : V} (hE : H E = some (.fdstr es)) (hv : gva es k = some v) (h : Q v H)
    (hs : ∀ x y, subscripted i false x y = operate [x, y] (getItem x y) := by intro _ _; with_unfolding_all rfl) : O2 p c ρ H (fun x y => subscriptTail o i x y) (.ref E) (.str k) Q X := fun Z Fo s u w hn r1 r2 => by
  obtain ⟨kvs, hz, hd, r⟩ := hn.st.own E _ hE
  obtain ⟨x, h1, h2⟩ := r.get.1 v hv
  cases r1; cases r2
  exact tail_any hd.typeIs slot_dict_getitem.lookup (wpAny_getItem_of (knd := PySem.strKind p.prog p.w) (k := k) (by simp [PySem.strKind, Value.isStrOf]) hd.mapOf h1 (.mk' hn.st.toks h2 h)) (hs _ _)
end
end TextL28
section TextL29
open PySem PySem.W PyProof.Rows PySem.Calls PySem.MeetsSeq
section
variable {p : Pm} {n : Nat} {c : Cx} {ρ : LM} {H : HM} {X : XQ} {Q : V → HM → Prop} {Qu : LM → HM → Prop} {Z : GM} {Fo : FM} {s : Shared} {a : Addr}
theorem RepVs.strsAre {ks : List Str} {us : List Value} (r : RepVs Z (ks.map .str) us) : StrsAre us ks := by
  induction ks generalizing us with
  | nil => rw [r.inv_nil]; exact .nil
  | cons k ks ih =>
    obtain ⟨u, us, rfl, r1, r2⟩ := r.inv
    cases r1
    exact .cons _ _ (ih r2)
theorem ints_rep : ∀ {us : List Value} {ks : List Int}, IntsAre us ks → RepVs Z (ks.map .int) us
  | _, _, .nil => .nil
  | _, _, .cons k t h => .cons (.int _ _) (ints_rep h)
theorem strs_rep : ∀ {us : List Value} {ks : List Str}, StrsAre us ks → RepVs Z (ks.map .str) us
  | _, _, .nil => .nil
  | _, _, .cons k t h => .cons (.str _ _) (strs_rep h)
theorem diAt (st : StP p Z Fo H s) {es : List (Int × V)} (ha : H a = some (.fdint es)) : ∃ kvs, s.heap.DictOf (intKind p.prog p.w) a kvs ∧ RepKV Z es kvs := by
  obtain ⟨kvs, _, h1, h2⟩ := st.own a _ ha; exact ⟨kvs, h1, h2⟩
theorem dsAt (st : StP p Z Fo H s) {es : List (Str × V)} (ha : H a = some (.fdstr es)) : ∃ kvs, s.heap.DictOf (PySem.strKind p.prog p.w) a kvs ∧ RepKV Z es kvs := by
  obtain ⟨kvs, _, h1, h2⟩ := st.own a _ ha; exact ⟨kvs, h1, h2⟩
theorem keysI {es : List (Int × V)} {kvs : List (Int × Value)} (r : RepKV Z es kvs) {acc : Array Value} (h : ItemsOf (fun i v => ∃ k x, kvs[i]? = some (k, x) ∧ (intKind p.prog p.w).is k v = true) acc kvs.length) : RepVs Z ((es.map (·.1)).map .int) acc.toList := by
  have hk := r.1
  rw [hk]
  refine ⟨by simp [h.1], fun i v u hv hu => ?_⟩
  obtain ⟨k, x, h1, h2⟩ := h.2 i u (by rw [← Array.getElem?_toList]; exact hu)
  rw [List.getElem?_map, List.getElem?_map, h1] at hv
  obtain ⟨t, rfl⟩ := Value.isInt_shape h2
  cases hv; exact .int _ _
theorem keysS {es : List (Str × V)} {kvs : List (Str × Value)} (r : RepKV Z es kvs) {acc : Array Value} (h : ItemsOf (fun i v => ∃ k x, kvs[i]? = some (k, x) ∧ (PySem.strKind p.prog p.w).is k v = true) acc kvs.length) : RepVs Z ((es.map (·.1)).map .str) acc.toList := by
  have hk := r.1
  rw [hk]
  refine ⟨by simp [h.1], fun i v u hv hu => ?_⟩
  obtain ⟨k, x, h1, h2⟩ := h.2 i u (by rw [← Array.getElem?_toList]; exact hu)
  rw [List.getElem?_map, List.getElem?_map, h1] at hv
  obtain ⟨t, rfl⟩ := Value.isStrOf_shape h2
  cases hv; exact .str _ _
theorem list_new (hn : Now p c Z Fo ρ H s) {D : Addr} {h' : Heap} {tk : Tok} {vs : List V} {us : Array Value} {m : Nat} (hD : s.heap.get? D = none) (k : ∀ b o, s.heap.get? b = some o → h'.get? b = some o) (hat : h'.get? D = some (listOf us m)) (r : RepVs Z vs us.toList)
    (h : H D = none → Q (.ref D) (upd H D (.list vs))) : EPost p Z Fo Q (.ref D) { s with heap := h', toks := tk } := by
  obtain ⟨hH, hZ, hF, st2⟩ := hn.st.new (tk := tk) (o' := .list vs) hD k ⟨us.toList, m, by simpa using hat, r⟩
  exact ⟨Z, _, _, Le.refl _, st2, .ref _, h hH⟩
theorem Os_list_dictI {es : List (Int × V)} (ha : H a = some (.fdint es)) (hl : es.length ≤ 16000000) (h : ∀ D, H D = none → Q (.ref D) (upd H D (.list ((es.map (·.1)).map .int)))) : Os p c ρ H (fun us => call (.type "list") us) [.ref a] Q X := fun Z Fo s us hn r => by
  obtain ⟨u, us, rfl, r1, r⟩ := r.inv
  rw [r.inv_nil]
  obtain ⟨kvs, hd, rr⟩ := diAt hn.st ha
  obtain ⟨ep, hat⟩ := hd.dictAt
  cases r1
  refine kdl_call (kdl_dict (knd := intKind p.prog p.w) (kvs := kvs) (ep := ep) (notSys hn ha)) rfl hat (by rw [← rr.len, sizeLine_eq]; omega) fun h' tk acc c' hk hD hacc => ?_
  exact list_new hn (Heap.get?_none_of_le (Nat.le_refl _)) hk hD (keysI rr hacc) fun hH => h _ hH
theorem sort_tail {κ : Type} (hn : Now p c Z Fo ρ H s) {h' : Heap} {tk : Tok} {vs : List Value} {out : Array Value} {ws : List V} (hk : ∀ b o, s.heap.get? b = some o → h'.get? b = some o) (r : RepVs Z ws out.toList) (h : H h'.objs.size = none → Q (.ref h'.objs.size) (upd H h'.objs.size (.list ws))) :
    EPost p Z Fo Q (.ref h'.objs.size) { s with heap := sortedHeap (h'.push (seqObj "list" vs.toArray 0)) h'.objs.size vs out, toks := tk } := by
  have hnone : s.heap.get? h'.objs.size = none := by
    cases q : s.heap.get? h'.objs.size with
    | none => rfl
    | some o => exact absurd (Heap.lt_size (hk _ _ q)) (Nat.lt_irrefl _)
  obtain ⟨e, he⟩ := sortedHeap_at (h := h'.push (seqObj "list" vs.toArray 0)) (a := h'.objs.size) (vs := vs) (n := 0) (out := out) (Heap.get?_push_size _ rfl)
  refine list_new hn (m := e) (us := out) hnone (fun b o q => ?_) he r h
  have hlt := Heap.lt_size (hk _ _ q)
  rw [sortedHeap_old (Nat.ne_of_lt hlt) (by rw [Heap.size_push]; exact Nat.lt_succ_of_lt hlt)]
  exact Heap.get?_push_of_some _ (hk _ _ q)
theorem Os_sorted_dictI {es : List (Int × V)} (ha : H a = some (.fdint es)) (h64 : es.length < 64) (h : ∀ D (ks : List Int), H D = none → ks.Perm (es.map (·.1)) → ks.Pairwise (· ≤ ·) → Q (.ref D) (upd H D (.list (ks.map .int)))) : Os p c ρ H (fun us => call (.builtin "sorted") us) [.ref a] Q X := fun Z Fo s us hn r => by
  obtain ⟨u, us, rfl, r1, r⟩ := r.inv
  rw [r.inv_nil]
  obtain ⟨kvs, hd, rr⟩ := diAt hn.st ha
  obtain ⟨ep, hat⟩ := hd.dictAt
  cases r1
  refine call_function_entry kind_sorted plain_sorted entry_sorted (args_sorted1 _) ?_
  unfold Builtin.«sorted»
  refine wpAny_bind (m := checkCount "sorted" 1 1 _) (wpAny_pure ?_)
  refine wpAny_bind (kdu_collect (kdl_dict (knd := intKind p.prog p.w) (kvs := kvs) (ep := ep) (notSys hn ha)) rfl hat (by rw [← rr.len, sizeLine_eq]; omega) fun h' tk acc hk hacc => ?_)
  have rep := keysI rr hacc
  have hI := rep.ints
  have hlen : acc.toList.length = es.length := by have := rep.1; simpa using this.symm
  refine wpAny_bind (wpAny_newList ?_ (by rw [hlen, sizeLine_eq]; omega))
  have hoL : (h'.push (seqObj "list" acc.toList.toArray 0)).get? h'.objs.size = some (seqObj "list" acc.toList.toArray 0) := Heap.get?_push_size _ rfl
  refine wpAny_bind (wpAny_holding (wpAny_call_entry slot_list_sort ⟨_, hoL, rfl⟩ entry_list_sort (list_sort_tree hoL hI (by rw [hlen]; exact h64) fun out ns' a1 a2 a3 => ⟨_, rfl, ?_⟩) (args_list_sort _)))
  exact wpAny_pure ⟨_, rfl, sort_tail (κ := Int) (vs := acc.toList) (out := out) hn hk (ints_rep a1) fun hH => h _ _ hH a2 a3⟩
theorem Os_sorted_dictS {es : List (Str × V)} (ha : H a = some (.fdstr es)) (h64 : es.length < 64) (h : ∀ D (ks : List Str), H D = none → ks.Perm (es.map (·.1)) → PyProof.Rows.sortedS ks = true → Q (.ref D) (upd H D (.list (ks.map .str)))) : Os p c ρ H (fun us => call (.builtin "sorted") us) [.ref a] Q X := fun Z Fo s us hn r => by
  obtain ⟨u, us, rfl, r1, r⟩ := r.inv
  rw [r.inv_nil]
  obtain ⟨kvs, hd, rr⟩ := dsAt hn.st ha
  obtain ⟨ep, hat⟩ := hd.dictAt
  cases r1
  refine call_function_entry kind_sorted plain_sorted entry_sorted (args_sorted1 _) ?_
  unfold Builtin.«sorted»
  refine wpAny_bind (m := checkCount "sorted" 1 1 _) (wpAny_pure ?_)
  refine wpAny_bind (kdu_collect (kdl_dict (knd := PySem.strKind p.prog p.w) (kvs := kvs) (ep := ep) (notSys hn ha)) rfl hat (by rw [← rr.len, sizeLine_eq]; omega) fun h' tk acc hk hacc => ?_)
  have rep := keysS rr hacc
  have hI := rep.strsAre
  have hlen : acc.toList.length = es.length := by have := rep.1; simpa using this.symm
  refine wpAny_bind (wpAny_newList ?_ (by rw [hlen, sizeLine_eq]; omega))
  have hoL : (h'.push (seqObj "list" acc.toList.toArray 0)).get? h'.objs.size = some (seqObj "list" acc.toList.toArray 0) := Heap.get?_push_size _ rfl
  refine wpAny_bind (wpAny_holding (wpAny_call_entry slot_list_sort ⟨_, hoL, rfl⟩ entry_list_sort (list_sort_treeK strKind_oneLt hoL hI.keysOf (fun v₁ v₂ rest e => keyKind_strs (by rw [← e]; exact hI)) (by rw [hlen]; exact h64) fun st' hp hs => ⟨_, rfl, ?_⟩) (args_list_sort _)))
  obtain ⟨ss', h1, h2, h3⟩ := sorted_out_str hI hp hs
  exact wpAny_pure ⟨_, rfl, sort_tail (κ := Str) (vs := acc.toList) hn hk (strs_rep h1) fun hH => h _ _ hH h2 h3⟩
theorem Os_sorted_list {ns : List Int} (ha : H a = some (.list (ns.map .int))) (h64 : ns.length < 64) (h : ∀ D (ks : List Int), H D = none → ks.Perm ns → ks.Pairwise (· ≤ ·) → Q (.ref D) (upd H D (.list (ks.map .int)))) : Os p c ρ H (fun us => call (.builtin "sorted") us) [.ref a] Q X := fun Z Fo s us hn r => by
  obtain ⟨u, us, rfl, r1, r⟩ := r.inv
  rw [r.inv_nil]
  obtain ⟨us, L⟩ := lat hn.st ha
  cases r1
  have hlen := L.rep.1
  simp only [List.length_map] at hlen
  refine sorted_ints L.is L.rep.ints (by rw [← hlen]; exact h64) fun out ns' a1 a2 a3 => ?_
  obtain ⟨e, he⟩ := sortedAll_at s.heap us out
  exact list_new (tk := s.toks) hn (m := e) (us := out) (Heap.get?_none_of_le (Nat.le_succ _)) (fun b o q => sortedAll_old q) he (ints_rep a1) fun hH => h _ _ hH a2 a3

theorem argBest_asc {f : Nat → Int} (hf : ∀ i j, i < j → j < n → f i < f j) : ∀ {k : Nat}, k < n → argBest (fun i j => decide (f i > f j)) k = k
  | 0, _ => rfl
  | k + 1, hk => by
    unfold argBest
    rw [argBest_asc hf (Nat.lt_of_succ_lt hk), if_pos]
    exact decide_eq_true (hf k (k + 1) (Nat.lt_succ_self k) hk)
theorem Os_max_dictI {es : List (Int × V)} {k : Int} {v : V} (ha : H a = some (.fdint (es ++ [(k, v)]))) (hl : es.length ≤ 16000000) (hasc : ((es ++ [(k, v)]).map (·.1)).Pairwise (· < ·)) (h : Q (.int k) H) : Os p c ρ H (fun us => call (.builtin "max") us) [.ref a] Q X := fun Z Fo s us hn r => by
  obtain ⟨u, us, rfl, r1, r⟩ := r.inv
  rw [r.inv_nil]
  obtain ⟨kvs, hd, rr⟩ := diAt hn.st ha
  obtain ⟨o, ep, es', h1, hc, hdat, hk', hp', hnd⟩ := id hd
  cases r1
  have hkeys : (es ++ [(k, v)]).map (·.1) = kvs.map (·.1) := rr.1
  have hlen := rr.len
  have hgd : s.heap.get? a ≠ none := by rw [h1]; simp
  have hne : a ≠ s.heap.objs.size := Nat.ne_of_lt (Heap.lt_size h1)
  obtain ⟨ep2, hat⟩ := hd.dictAt
  refine call_max_walk ((kdl_dict (knd := intKind p.prog p.w) (kvs := kvs) (ep := ep2) (notSys hn ha)).iter c.A.in1 s rfl hat |> fun ⟨oI, St, hit, W, st⟩ => hit _ _ ?_)
  refine ⟨s.heap.objs.size, _, _, _, _, _, fun i j => decide (((kvs.map (·.1)).getD i 0) > ((kvs.map (·.1)).getD j 0)), rfl, W, st, fun b hb => ?_, ?_, CmpOf.ints_gt (fun i => (kvs.map (·.1)).getD i 0) (fun i v hv => ?_), fun v' h' tk hP hk => ?_⟩
  · rw [Heap.size_push]
    rcases List.mem_cons.mp hb with e | hb
    · rw [e]; exact Nat.lt_succ_self _
    · rw [List.mem_singleton.mp hb]; exact Nat.lt_succ_of_lt (Heap.lt_size h1)
  · rw [← hlen]; simp
  · obtain ⟨k', x, e1, e2⟩ := hv
    obtain ⟨t, rfl⟩ := Value.isInt_shape e2
    exact ⟨t, by rw [List.getD_eq_getElem?_getD, List.getElem?_map, e1]; rfl⟩
  · have hlt : kvs.length - 1 < kvs.length := by rw [← hlen]; simp
    rw [argBest_asc (n := kvs.length) (fun i j hij hj => ?_) hlt] at hP
    · obtain ⟨k', x, e1, e2⟩ := hP
      obtain ⟨t, rfl⟩ := Value.isInt_shape e2
      have e3 : ((es ++ [(k, v)]).map (·.1))[kvs.length - 1]? = some k' := by rw [hkeys, List.getElem?_map, e1]; rfl
      rw [← hlen, List.map_append, List.length_append, List.length_singleton, Nat.add_sub_cancel, List.getElem?_append_right (by simp)] at e3
      simp at e3
      subst e3
      refine .mk' (hn.st.grow (tk := tk) fun b o e => hk b o (fun hm => ?_) (Heap.get?_push_of_some _ e)) (.int _ _) h
      exact absurd (Heap.lt_size e) (by rw [List.mem_singleton.mp hm]; exact Nat.lt_irrefl _)
    · rw [← hkeys]
      rw [hkeys] at hasc
      rw [hkeys]
      have hi' : i < (kvs.map (·.1)).length := by rw [List.length_map]; omega
      have hj' : j < (kvs.map (·.1)).length := by rw [List.length_map]; exact hj
      rw [List.getD_eq_getElem?_getD, List.getD_eq_getElem?_getD, List.getElem?_eq_getElem hi', List.getElem?_eq_getElem hj']
      exact List.pairwise_iff_getElem.mp hasc i j hi' hj' hij
end
end TextL29
section TextL30
open PySem PySem.W PyProof.Rows PySem.Calls PySem.MeetsSeq
theorem miss_keys : typeLookup (.type "list") (Str.ofString "keys") = pure none := am_miss_of_fast (by decide +kernel)
theorem getAttrQ_list {prog : Program} {w : World} {A : Around} {E : Value → Shared → Prop} {s : Shared} {a : Addr} {xs : Array Value} {k : Nat} {Q : Option Value → Shared → Prop}
    (hx : s.heap.get? a = some (listOf xs k)) (hA : A.handled = none) (h : ∀ h' tk, (∀ b o, s.heap.get? b = some o → h'.get? b = some o) → Q none { s with heap := h', toks := tk }) : wpAny (model prog w) A (getAttr? (.ref a) (Str.ofString "keys")) Q E s := by
  obtain ⟨hp, g, d, tk, os⟩ := s
  have hx' : hp.get? a = some { cls := .type "list", dict := none, data := .seq xs k, slots := #[] } := hx
  have hT : ∀ tk', (⟨hp, g, d, tk', os⟩ : Shared).TypeIs (.ref a) "list" := fun _ => ⟨_, hx, rfl⟩
  have f1 := sub_AttributeError
  have f3 := F.slot_list_getattribute.lookup
  have f4 := F.slot_list_getattribute.bind (.ref a)
  have f5 := am_list_getattr_none
  unfold getAttr? getAttrBy? getAttrBy
  repeat (any_goals (first | assumption | exact hT _ | ((with_reducible show wpAny _ _ (call (Value.builtin "list.__getattribute__") _ _) _ _ _); refine call_meets F.slot_list_getattribute (hT _) am_entry_list_getattribute (F.args_list_getattribute_2 _ _) (meets_getattribute_miss_list a xs k #[] _ _ miss_keys (by decide +kernel)) ⟨hx', hA, fun h' tk' e hx' => ?_⟩) | wp_step))
  obtain ⟨t', u', he⟩ := hx'.there
  have hk := hx'.keeps
  unfold getattributeRaised
  repeat (any_goals (first | assumption | wp_step))
  exact h _ _ hk

theorem entry_duloop : entryFor table "dict.update.loop" = some Builtin.«dict.update.loop» := entryFor_of_tree (by kernel_rfl)
theorem plain_duloop : plainId "dict.update.loop" = true := by decide +kernel

section
variable {p : Pm} {n : Nat} {c : Cx} {ρ : LM} {H : HM} {X : XQ} {Q : V → HM → Prop} {Qu : LM → HM → Prop} {Z : GM} {Fo : FM} {s : Shared} {a : Addr}
theorem gst_new {es : List (Int × V)} {k : Int} {v : V} (h : k ∉ es.map (·.1)) : gst es k v = es ++ [(k, v)] := by
  unfold gst
  rw [if_neg]
  intro q
  rw [List.any_eq_true] at q
  obtain ⟨e, h1, h2⟩ := q
  exact h (List.mem_map.mpr ⟨e, h1, by simpa using h2⟩)
theorem pairs_loop {A : Around} (hh : A.handled = none) {ps : List (Int × V)} {us : List Value} {I D : Addr} {R : Result → Shared → Prop} (hr : RepVs Z (ps.map fun x => .tup [.int x.1, x.2]) us) (hl : ps.length ≤ 16000000) (hnd : (ps.map (·.1)).Nodup) (haI : a ≠ I) (haD : a ≠ D) (hID : I ≠ D) :
    ∀ (k i : Nat) (s : Shared), ps.length - i = k → i ≤ ps.length → StP p Z Fo (upd H D (.dint (ps.take i))) s → Free p Z Fo (upd H D (.dint (ps.take i))) I → (s.heap.IsListIter I a i ∧ s.heap.IsList a us.toArray) →
      (∀ s', StP p Z Fo (upd H D (.dint ps)) s' → R (.ok (.ret .none)) s') → codeAny (M p) A (.builtin "dict.update.loop" ⟨[.ref D, .ref I, rawInt i, .none], []⟩) R s := by
  intro k
  have hlen : ps.length = us.length := by have := hr.1; simpa using this
  have W := Walks.list (prog := p.prog) (w := p.w) (A := A.in1) hh I a haI us.toArray
  have hsz : us.toArray.size = ps.length := by rw [List.size_toArray, hlen]
  induction k with
  | zero =>
    intro i s hk hi st fI hS hR
    have hin : i = us.toArray.size := by rw [hsz]; omega
    refine codeAny_builtin entry_duloop ?_
    rw [Around.under_plainId plain_duloop _]
    unfold Builtin.«dict.update.loop»
    show wpAny _ A.in1 (pyNext (.ref I) >>= _) _ _ s
    refine wpAny_bind (W.done s _ _ (hin ▸ hS) fun h' tk hk' => ?_)
    have st' := st.but fI (h' := h') (tk := tk) fun b o hb e => hk' b o (by simpa using hb) e
    have e : ps.take i = ps := List.take_of_length_le (by rw [hin, hsz]; exact Nat.le_refl _)
    rw [e] at st'
    show wpAny _ A.in1 (Builtin.Dict.addKeywords D [] >>= _) _ _ _
    exact wpAny_bind (wpAny_pure (wpAny_pure (hR _ st')))
  | succ k ih =>
    intro i s hk hi st fI hS hR
    have hlt : i < ps.length := by omega
    obtain ⟨⟨kk, x⟩, hx⟩ : ∃ q : Int × V, ps[i]? = some q := ⟨ps[i], List.getElem?_eq_getElem hlt⟩
    have hx2 : (ps.map fun x => V.tup [.int x.1, x.2])[i]? = some (.tup [.int kk, x]) := by rw [List.getElem?_map, hx]; rfl
    obtain ⟨v, hv, rv⟩ := hr.get hx2
    refine codeAny_builtin entry_duloop ?_
    rw [Around.under_plainId plain_duloop _]
    unfold Builtin.«dict.update.loop»
    show wpAny _ A.in1 (pyNext (.ref I) >>= _) _ _ s
    refine wpAny_bind (W.item i s _ _ (by rw [hsz]; exact hlt) hS fun v' h' tk hP hst' hk' => ?_)
    have hvv : v' = v := by
      have : us[i]? = some v' := by simpa using hP
      rw [hv] at this; exact (Option.some.inj this).symm
    subst hvv
    have st' := st.but fI (h' := h') (tk := tk) fun b o hb e => hk' b o (by simpa using hb) e
    obtain ⟨t, us2, rfl, ht, rs⟩ := rv.tupAt st'
    obtain ⟨u1, us2, rfl, r1, rs⟩ := rs.inv
    obtain ⟨u2, us2, rfl, r2, rs⟩ := rs.inv
    rw [rs.inv_nil] at ht
    cases r1
    have oD : (upd H D (.dint (ps.take i))) D = some (.dint (ps.take i)) := upd_same ..
    obtain ⟨kvs, hd, rr⟩ := st'.own D _ oD
    have htk : (ps.take i).length ≤ 16000000 := by rw [List.length_take]; omega
    obtain ⟨ot, ho, hc, m, hdt⟩ := id ht
    refine wpAny_bind (wpAny_holding ?_)
    refine wpAny_bind (wpAny_tryCatch (m := Builtin.Dict.pairItems _) ?_)
    unfold Builtin.Dict.pairItems
    refine wpAny_bind (wpAny_typeOf (T := "tuple") ⟨ot, ho, hc⟩ ?_)
    rw [if_pos (by decide)]
    refine wpAny_bind (wpAny_seqItems ho hdt (wpAny_pure ?_))
    dsimp only [Option.getD]
    refine wpAny_holding (wpAny_dictSet_pairs (knd := intKind p.prog p.w) (k := kk) (hsz := by rw [← rr.len, sizeLine_eq]; omega) (by simp [intKind, Value.isInt]) hd fun h'' hm hs => ?_)
    have st2 := st'.put (o' := .dint (gst (ps.take i) kk x)) (tk := tk + 1) oD hs.extBut ⟨_, hm, rr.put r2⟩
    have hni : kk ∉ (ps.take i).map (·.1) := by
      intro q
      rw [List.map_take] at q
      obtain ⟨j, hj, e⟩ := List.getElem_of_mem q
      rw [List.length_take, List.length_map] at hj
      rw [List.getElem_take] at e
      have e2 : (ps.map (·.1))[i]? = some kk := by rw [List.getElem?_map, hx]; rfl
      have := List.getElem_of_getElem? e2
      obtain ⟨hi', e3⟩ := this
      have hjl : j < (ps.map (·.1)).length := by rw [List.length_map]; omega
      exact List.pairwise_iff_getElem.mp hnd j i hjl hi' (by omega) (e.trans e3.symm)
    rw [gst_new hni, upd_upd] at st2
    have e4 : ps.take i ++ [(kk, x)] = ps.take (i + 1) := by rw [List.take_add_one, hx]; rfl
    rw [e4] at st2
    have fI2 : Free p Z Fo (upd H D (.dint (ps.take (i + 1)))) I := ⟨fI.1, fI.2.1, by have := fI.2.2.1; rw [upd_ne hID] at this ⊢; exact this, fI.2.2.2⟩
    exact wpAny_pure ⟨plainId_quiet plain_duloop _, ih (i + 1) _ (by omega) hlt st2 fI2 (W.frame _ _ _ hst' fun b hb o e => hs.extBut b o (by
      simp only [List.mem_cons, List.not_mem_nil, or_false] at hb
      rcases hb with rfl | rfl
      · exact hID
      · exact haD) e) hR⟩

theorem Os_dict_pairs {ps : List (Int × V)} (ha : H a = some (.list (ps.map fun x => .tup [.int x.1, x.2]))) (hl : ps.length ≤ 16000000) (hnd : (ps.map (·.1)).Nodup) (h : ∀ D, H D = none → Q (.ref D) (upd H D (.dint ps))) : Os p c ρ H (fun us => call (.type "dict") us) [.ref a] Q X := fun Z Fo s us hn r => by
  obtain ⟨u, us, rfl, r1, r⟩ := r.inv
  rw [r.inv_nil]
  cases r1
  obtain ⟨hH, st1, -⟩ := dict0_new hn
  refine callType_codes (Q₁ := fun obj s₁ => obj = .ref s.heap.objs.size ∧ s₁ = { s with heap := s.heap.push { cls := .type "dict", data := .dict #[] } }) F.kt_called_dict (F.kt_typeCall_dict_1 _) F.entry_dict_init (kt_code_dict_new _ ⟨rfl, rfl⟩) ?_
  rintro obj s₁ ⟨rfl, rfl⟩
  have hn1 := hn.step st1
  generalize hDe : s.heap.objs.size = D at *
  have oD : (upd H D (.dint [])) D = some (.dint []) := upd_same ..
  obtain ⟨kvs, hd, rr⟩ := st1.own D _ oD
  have haD : a ≠ D := fun q => by rw [q, hH] at ha; cases ha
  refine ⟨hd.typeIs, F.args_dict_init_2 _ _, ?_⟩
  unfold Builtin.«dict.__init__»
  refine wpAny_bind ?_
  unfold Builtin.Dict.selfAndRest
  refine wpAny_bind (wpAny_notOrdered_dict hd.typeIs ?_)
  show wpAny _ _ (pure (D, [Value.ref a])) _ _ _
  refine wpAny_pure ?_
  show wpAny _ _ (Builtin.Dict.updateFrom "dict.__init__" D (.ref a) [] .none) _ _ _
  have ha1 : (upd H D (.dint [])) a = some (.list (ps.map fun x => .tup [.int x.1, x.2])) := by rw [upd_ne haD]; exact ha
  obtain ⟨us, L⟩ := lat st1 ha1
  obtain ⟨m, hm⟩ := L.at'
  unfold Builtin.Dict.updateFrom
  refine wpAny_bind (wpAny_typeOf L.is.typeIs ?_)
  rw [if_pos (by decide)]
  refine wpAny_bind (getAttrQ_list hm rfl fun h2 tk2 hk2 => ?_)
  simp only [Option.isNone_none, if_true]
  have st2 := st1.grow (h' := h2) (tk := tk2) hk2
  have L2 : h2.IsList a us.toArray := ⟨_, hk2 _ _ hm, rfl, m, rfl⟩
  refine wpAny_bind (wpAny_rule (wpAny_bind (wpAny_pyIter_list L2 ?_)))
  obtain ⟨st3, fI⟩ := st2.iterNew { cls := .type "list_iterator", data := .fields #[.ref a, .int 0 0] }
  have haI : a ≠ h2.objs.size := Nat.ne_of_lt (Heap.lt_size (hk2 _ _ hm))
  have hID : h2.objs.size ≠ D := by
    obtain ⟨o, ho⟩ : ∃ o, h2.get? D = some o := by
      obtain ⟨c, hc⟩ := (st2.own D _ oD).some_; exact ⟨c, hc⟩
    exact (Nat.ne_of_lt (Heap.lt_size ho)).symm
  have hS : ((h2.push { cls := .type "list_iterator", data := .fields #[.ref a, .int 0 0] }).IsListIter h2.objs.size a 0 ∧ (h2.push { cls := .type "list_iterator", data := .fields #[.ref a, .int 0 0] }).IsList a us.toArray) :=
    ⟨⟨_, Heap.get?_push_size _ rfl, rfl, rfl⟩, _, Heap.get?_push_of_some _ (hk2 _ _ hm), rfl, m, rfl⟩
  refine wpAny_pure ⟨plainId_quiet plain_duloop _, pairs_loop (p := p) (Fo := Fo) (H := H) (a := a) (A := c.A.in1) rfl L.rep hl hnd haI haD hID _ 0 _ rfl (Nat.zero_le _) st3 fI hS fun s' st' => ?_⟩
  exact ⟨rfl, Z, _, _, Le.refl _, st', .ref _, h D hH⟩
end
end TextL30
section TextL31
open PySem PySem.W PyProof.Rows PySem.Calls PySem.MeetsSeq
def plainD : Nat → V → Prop
  | 0, v => match v with | .none | .int _ | .str _ | .bool _ => True | _ => False
  | d + 1, v => plainD 0 v ∨ ∃ vs, v = .tup vs ∧ ∀ x ∈ vs, plainD d x
theorem cLine_is' : cLine = 9900 := rfl
section
variable {p : Pm} {n : Nat} {c : Cx} {ρ : LM} {H : HM} {X : XQ} {Q : V → HM → Prop} {Qu : LM → HM → Prop} {Z : GM} {Fo : FM} {s : Shared} {a b : Addr}
theorem eq_plain (st : StP p Z Fo H s) : ∀ (d : Nat) {v : V} {u u' : Value} {A : Around}, plainD d v → RepV Z v u → RepV Z v u' → A.units + d < cLine → SeqAt.EqAt A s u u' true
  | 0, v, u, u', A, h, r1, r2, hu => by
    cases v with
    | none => cases r1; cases r2; exact .same _
    | bool b => cases r1; cases r2; exact .same _
    | int i =>
      cases r1; cases r2
      rename_i t t'
      have := SeqAt.EqAt.int_int (A := A) (s := s) i t i t'
      rwa [beq_self_eq_true] at this
    | str i =>
      cases r1; cases r2
      rename_i t t'
      have := SeqAt.EqAt.str_str (A := A) (s := s) i t i t'
      rwa [beq_self_eq_true] at this
    | _ => simp [plainD] at h
  | d + 1, v, u, u', A, h, r1, r2, hu => by
    rw [plainD] at h
    rcases h with h | ⟨vs, rfl, h⟩
    · exact eq_plain st 0 h r1 r2 (by omega)
    · obtain ⟨t, us, rfl, ht, rs⟩ := r1.tupAt st
      obtain ⟨t', us', rfl, ht', rs'⟩ := r2.tupAt st
      by_cases hne : t = t'
      · subst hne; exact .same _
      · refine .of_refs hne ?_
        have := SeqAt.RcAt.tuples (A := A) (s := s) (e := fun _ => true) ht ht' (by omega) fun j h1 h2 => by
          have hj1 : j < us.length := by simpa using h1
          have hj2 : j < us'.length := by simpa using h2
          have hjv : j < vs.length := by rw [rs.1]; exact hj1
          exact eq_plain st d (h _ (List.getElem_mem hjv)) (rs.2 j _ _ (List.getElem?_eq_getElem hjv) (by simp [hj1])) (rs'.2 j _ _ (List.getElem?_eq_getElem hjv) (by simp [hj2])) (by show A.units + 1 + d < cLine; omega)
        have e : ((List.range (min us.toArray.size us'.toArray.size)).all (fun _ => true) && us.toArray.size == us'.toArray.size) = true := by
          have := rs.1; have := rs'.1
          simp; omega
        rwa [e] at this
def KeyOf (l : List (Int × V)) : Prop := ∀ x ∈ l, gva l x.1 = some x.2
theorem keyOf_nodup {l : List (Int × V)} (h : (l.map (·.1)).Nodup) : KeyOf l := by
  induction l with
  | nil => intro x hx; cases hx
  | cons y l ih =>
    rw [List.map_cons, List.nodup_cons] at h
    intro x hx
    unfold gva
    rw [List.find?_cons]
    rcases List.mem_cons.mp hx with rfl | hx
    · simp
    · have hne : ¬ y.1 = x.1 := fun e => h.1 (e ▸ List.mem_map_of_mem hx)
      simp only [hne, decide_false]
      exact ih h.2 x hx
theorem hits_same (st : StP p Z Fo H s) {A : Around} {d : Nat} (hu : A.units + d < cLine) {es : List (Int × V)} {kb : List (Int × Value)} (hb : RepKV Z es kb) : ∀ {l : List (Int × V)} {ka : List (Int × Value)}, RepKV Z l ka → (∀ x ∈ l, gva es x.1 = some x.2 ∧ plainD d x.2) → KeqHits A s kb ka true
  | [], ka, r, _ => by rw [r.inv_nil]; exact .nil
  | x :: l, ka, r, h => by
    obtain ⟨⟨k, v⟩, ka', rfl, e1, r1, r2⟩ := r.inv
    dsimp only at e1 r1
    obtain ⟨h1, h2⟩ := h x (.head _)
    obtain ⟨y, hy, ry⟩ := hb.get.1 _ h1
    rw [e1] at hy
    exact KeqHits.hit (e := true) (b := true) hy (eq_plain st d h2 r1 ry hu) (hits_same st hu hb r2 fun z hz => h z (.tail _ hz))
theorem pairs_any {prog prog' : Program} {w w' : World} : ∀ {es : List DictEntry} {kvs : List (Int × Value)}, Pairs (intKind prog w) es kvs → Pairs (intKind prog' w') es kvs
  | _, _, .nil => .nil
  | _, _, .cons h1 h2 h3 => .cons h1 h2 (pairs_any h3)
theorem dict_any {prog prog' : Program} {w w' : World} {h : Heap} {a : Addr} {kvs : List (Int × Value)} (x : h.DictOf (intKind prog w) a kvs) : h.DictOf (intKind prog' w') a kvs := by
  obtain ⟨o, es, ep, h1, h2, h3, h4, h5, h6⟩ := x
  exact ⟨o, es, ep, h1, h2, h3, h4, pairs_any h5, h6⟩
theorem eq_dicts (st : StP p Z Fo H s) {A : Around} {d : Nat} (hu : A.units + d + 1 < cLine) {es : List (Int × V)} (ha : H a = some (.fdint es)) (hb : H b = some (.fdint es)) (hnd : (es.map (·.1)).Nodup) (hp : ∀ x ∈ es, plainD d x.2) : SeqAt.EqAt A s (.ref a) (.ref b) true := by
  by_cases hne : a = b
  · subst hne; exact .same _
  · refine .of_refs hne fun prog w E Q hq => ?_
    obtain ⟨ka, da, ra⟩ := diAt st ha
    obtain ⟨kb, db, rb⟩ := diAt st hb
    have hsa : (a == sysModules) = false := by
      rw [beq_eq_false_iff_ne]; intro e
      have := (st.hb a _ ha).1; rw [e] at this; exact p.sysM this
    have hsb : (b == sysModules) = false := by
      rw [beq_eq_false_iff_ne]; intro e
      have := (st.hb b _ hb).1; rw [e] at this; exact p.sysM this
    have da' : s.heap.DictOf (intKind prog w) a ka := dict_any da
    have db' : s.heap.DictOf (intKind prog w) b kb := dict_any db
    have kk := keyOf_nodup hnd
    refine keq_eq (knd := intKind prog w) hsa hsb da' db' (by omega) (r := true) (fun _ => hits_same st (A := A.in1) (d := d) (by show A.units + 1 + d < cLine; omega) rb ra fun x hx => ⟨kk x hx, hp x hx⟩) ?_
    have : (ka.length == kb.length && true) = true := by rw [← ra.len, ← rb.len]; simp
    rw [this]; exact hq
theorem O_neT {vs ws : List V} (hl : vs.length = ws.length)
    (he : ∀ Z Fo s, StP p Z Fo H s → ∀ (j : Nat) v w u u', vs[j]? = some v → ws[j]? = some w → RepV Z v u → RepV Z w u' → SeqAt.EqAt c.A.in1 s u u' true) (h : Q (.bool false) H) : O2 p c ρ H (compareOp .NotEq) (.tup vs) (.tup ws) Q X := fun Z Fo s u w hn r1 r2 => by
  obtain ⟨t, us, rfl, ht, rs⟩ := r1.tupAt hn.st
  obtain ⟨t', us', rfl, ht', rs'⟩ := r2.tupAt hn.st
  have hu : c.A.units < cLine := by show 9000 - 10 * c.n < 9900; omega
  have l1 := rs.1
  have l2 := rs'.1
  have e : (!((List.range (min us.toArray.size us'.toArray.size)).all (fun _ => true) && us.toArray.size == us'.toArray.size)) = false := by
    simp; omega
  refine SeqAt.RcNeAt.tuples (e := fun _ => true) ht ht' hu (fun j h1 h2 => ?_) _ _ _ _ (.mk' hn.st (.bool _) (by rw [e]; exact h))
  have hj1 : j < us.length := by simpa using h1
  have hj2 : j < us'.length := by simpa using h2
  have hjv : j < vs.length := by rw [l1]; exact hj1
  have hjw : j < ws.length := by rw [l2]; exact hj2
  exact he Z Fo s hn.st j _ _ _ _ (List.getElem?_eq_getElem hjv) (List.getElem?_eq_getElem hjw) (rs.2 j _ _ (List.getElem?_eq_getElem hjv) (by simp [hj1])) (rs'.2 j _ _ (List.getElem?_eq_getElem hjw) (by simp [hj2]))
theorem O_neP {vs : List V} {d : Nat} (hd : d ≤ 100) (hp : ∀ x ∈ vs, plainD d x) (h : Q (.bool false) H) : O2 p c ρ H (compareOp .NotEq) (.tup vs) (.tup vs) Q X :=
  O_neT rfl (fun Z Fo s st j v w u u' e1 e2 r1 r2 => by
    rw [e1] at e2; cases e2
    exact eq_plain st d (hp v (List.mem_of_getElem? e1)) r1 r2 (by rw [cLine_is']; show 9000 - 10 * c.n + 1 + d < 9900; omega)) h

theorem ga_kind : builtinKind "BaseException.__getattribute__" = some .slot := by decide +kernel
theorem ga_split : splitId "BaseException.__getattribute__" = some ("BaseException", "__getattribute__") := by decide +kernel
theorem ga_plain : plainId "BaseException.__getattribute__" = true := by decide +kernel
theorem ga_ne : (Value.builtin "BaseException.__getattribute__" == Value.builtin "object.__getattribute__") = false := by decide +kernel
theorem O_getExc {C : Addr} {name : Str} {ns : List Str} {vs : List V} {v : V} {ex : Bool} (XC : XCls p C) (hgn : findIn (Mine.hd.heap_39 p.w.params) (.ref C) "__getattr__" = some none) (hf : findIn (Mine.hd.heap_39 p.w.params) (.ref C) name = some none)
    (hl : (ns.zip vs).lookup name = some v) (hv : ∀ x, v = .con x → handedIn x = true) (h : Q v H) : O1 p c ρ H (fun u => getAttr u name ex) (.obj C ns vs) Q X := fun Z Fo s u hn r => by
  obtain ⟨a, o, es, m, rfl, I, rf⟩ := r.instF hn.st
  obtain ⟨u, h1, h2⟩ := (rf.get (n := name)).1 v hl
  obtain ⟨nm, q, N, bs, bm, hdct, sn, sub, ab, col, dd, k0, k1, k2, k3, k5, hK, B⟩ := XC.ok
  have X' := p.X.keeps hn.st.base
  have hcB : (Value.ref C :: bm).contains (.type "BaseException") = true := by rw [List.contains_cons, B.base, Bool.or_true]
  have hst := hn.st
  obtain ⟨hh, g, d, tk, os⟩ := s
  have L0 := I.type (M := M p)
  have L1 := looks_findIn (M := M p) X' XC.get
  have L2 := looks_findIn (M := M p) X' hgn
  have L3 := looks_find (M := M p) X' I (findObj_own XC.dict hf rfl (by show lookIn name ((some (dictOf es m)).getD default) = some (some u); show lookIn name (dictOf es m) = _; rw [lookIn_dict, h1]))
  have hC : hh.get? C = some (excClassObj nm q C N bs bm hdct sn sub ab col dd k0 k1 k2 k3 k5 "Exception.__new__") := X' _ _ hK
  have hx : hh.get? a = some o := I.at_
  have hc := I.cls
  have hfin : EPost p Z Fo Q u ⟨hh, g, d, tk + 1, os⟩ := .mk' hst.toks h2 h
  unfold getAttr getAttrBy
  refine wpAny_bind (wpAny_mkText (wpAny_holding (wpAny_bind (L0.at (wpAny_bind (L1.at ?_))))))
  show wpAny _ _ (if (onTheHeap (Value.ref C) && Value.builtin "BaseException.__getattribute__" == Value.builtin "object.__getattribute__") = true then _ else getAttrByItsOwn _ _ _ _ _ _) _ _ _
  rw [ga_ne, Bool.and_false, if_neg (by decide)]
  unfold getAttrByItsOwn
  refine wpAny_bind ?_
  show wpAny _ _ (typeLookup (.ref C) "__getattr__") _ _ _
  refine L2.at (wpAny_bind (wpAny_attempt (wpAny_holding ?_)))
  have hx0 : (ex && onTheHeap (Value.builtin "BaseException.__getattribute__")) = false := by cases ex <;> rfl
  unfold callGetattribute
  rw [hx0, if_neg (by decide)]
  unfold boundAndCalled
  have FB := PySem.F.attr_Exception
  have f3 := FB.ga.bind (.ref a)
  have hga : ∀ nameV, argsOk "BaseException.__getattribute__" ⟨[.ref a, nameV], []⟩ := fun nameV => PySem.F.args_bexc_ga (.ref a) nameV
  refine wpAny_bind (wpAny_of_eq f3 ?_)
  have ha := hga (.str name tk)
  have body : ∀ A : Around, wpAny (M p) A (Builtin.«object.__getattribute__» ⟨[.ref a, .str name tk], []⟩) (fun fin s' => fin = .done (.ret u) ∧ s' = ⟨hh, g, d, tk + 1, os⟩) (fun _ _ => False) ⟨hh, g, d, tk + 1, os⟩ := fun A => by
    refine wpAny_bind (wpAny_pure (wpAny_bind (wpAny_pure (wpAny_bind (L0.at (wpAny_bind (L3.at ?_)))))))
    exact wpAny_pure ⟨rfl, rfl⟩
  have chk : ∀ (A : Around) (E : Value → Shared → Prop) (Q' : Unit → Shared → Prop), Q' () ⟨hh, g, d, tk + 1, os⟩ → wpAny (M p) A (checkBuiltinCall "BaseException.__getattribute__" ⟨[.ref a, .str name tk], []⟩) Q' E ⟨hh, g, d, tk + 1, os⟩ := fun A E Q' hq => by
    simp only [checkBuiltinCall, ga_kind, ga_split]
    refine wpAny_bind ?_
    unfold isInstance
    repeat (first | (with_reducible refine wpAny_loadPart_at hx ?_; rw [hc]) | (with_reducible refine wpAny_isSubtype_exc hC ?_; rw [hcB]) | wp_step)
    exact hq
  refine wpAny_call (codeAny_call_builtin ga_plain PySem.F.entry_bexc_ga (chk _ _ _ (wpAny_mono (body _) (fun fin s' ⟨e1, e2⟩ => ?_) fun _ _ e => e.elim)))
  subst e1 e2
  show wpAny _ _ (handedOut u) _ _ _
  rw [handedOut_of (h2.handed hv)]
  exact wpAny_pure hfin
end
end TextL31
section TextL32
open PySem PySem.W PyProof.Rows PySem.Calls PySem.MeetsSeq
section
variable {p : Pm} {c : Cx} {ρ : LM} {H : HM} {Z Z₁ : GM} {Fo : FM} {s s' : Shared} {X : XQ} {Q : V → HM → Prop}
structure CompD (p : Pm) (c : Cx) (scope : Scope) (cl : List (Str × Addr)) (x : Str) (px : Pos) (ifs : List Expr) (kx vx : Expr) (items : List V) (H₂ : HM) (Inv : Nat → List (Str × V) → HM → Prop) : Prop where
  len : items.length ≤ 1000000
  i0 : Inv 0 [] H₂
  dom : ∀ i acc H₃ b, Inv i acc H₃ → H₂ b = none → H₃ b = none
  small : ∀ i acc H₃, Inv i acc H₃ → acc.length ≤ i
  turn : ∀ C D i y acc H₃, p.g.objs.size ≤ C → items[i]? = some y → Inv i acc H₃ → H₃ C = none → H₃ D = none → D ≠ C →
    U1 p (compCx c scope cl C) [] (upd H₃ D (.dstr acc)) (fun u => assign (.Name x px) (compCx c scope cl C).env u) y (fun ρ₂ H₄ =>
      TW p (compCx c scope cl C) ρ₂ H₄ ifs (fun ok H₅ => if ok = true then EW p (compCx c scope cl C) ρ₂ H₅ (eval kx (compCx c scope cl C).env) (fun kv H₆ => ∃ k, kv = .str k ∧ EW p (compCx c scope cl C) ρ₂ H₆ (eval vx (compCx c scope cl C).env) (fun v H₇ =>
          ∃ H₈, H₇ = upd H₈ D (.dstr acc) ∧ H₈ D = none ∧ Inv (i + 1) (gst acc k v) H₈) NX) NX
        else ∃ H₈, H₅ = upd H₈ D (.dstr acc) ∧ H₈ D = none ∧ Inv (i + 1) acc H₈)) NX
theorem comp_coreD {kx vx iter : Expr} {x : Str} {px : Pos} {ifs : List Expr} {scope : Scope} {cl : List (Str × Addr)} {pos : Pos} {I : Addr} {S : Nat → Heap → Prop} {items : List V} {Inv : Nat → List (Str × V) → HM → Prop} {RR : Value → Addr → Result → Shared → Prop} {E : Value → Shared → Prop}
    (hn : Now p c Z Fo ρ H s) (fr : Free p Z Fo H I) (it : Iter p Z I items S) (S0 : S 0 s.heap) (K : CompD p c scope cl x px ifs kx vx items H Inv)
    (hcell : ∀ y ∈ scope.names, y.2 ≠ .cell) (hkind : scope.kind = .function) (hL : p.g.objs.size ≤ c.L)
    (hRR : ∀ D C Z₃ H₃ acc s₃, Le Z Z₃ → StP p Z₃ (upd Fo C []) (upd H₃ D (.dstr acc)) s₃ → Fo C = none → D ≠ C → H₃ D = none → Inv items.length acc H₃ → RR (.ref D) C (.ok .next) s₃) :
    wpAny (M p) c.A newDict (fun acc s₃ => wpAny (M p) c.A (newFunctionEnv scope c.env.globals cl [] c.env.qual none .none (some c.env)) (fun cenv s₄ =>
      codeAny (M p) c.A (.compStart (.DictComp kx vx [⟨.Name x px, iter, ifs, 0⟩] scope pos) 0 (.ref I) acc { cenv with scope := relabel scope c.env }) (RR acc cenv.locals) s₄) E s₃) E s := by
  refine wpAny_newObj_type (wpAny_newFunctionEnv hcell (by intro y hy; simp at hy) (fun h₁ hns₁ hsb₁ => ?_) hkind)
  dsimp only at hns₁ hsb₁ ⊢
  have hh : c.A.handled = none := rfl
  have hlt : p.g.objs.size ≤ s.heap.objs.size := by
    obtain ⟨m, ⟨oo, _, _, h1, _⟩, _⟩ := hn.st.fr _ _ hn.lo
    exact Nat.le_trans hL (Nat.le_of_lt (Heap.lt_size h1))
  have hnew : (s.heap.push { cls := .type "dict", dict := none, data := .dict #[] }).DictOf (PySem.strKind p.prog p.w) s.heap.objs.size [] := Heap.DictOf.new s.heap
  generalize hH2 : s.heap.push { cls := .type "dict", dict := none, data := .dict #[] } = H2 at hns₁ hsb₁ hnew ⊢
  have hC : H2.objs.size = s.heap.objs.size + 1 := by rw [← hH2, Heap.size_push]
  have hDC : s.heap.objs.size ≠ H2.objs.size := by rw [hC]; exact Nat.ne_of_lt (Nat.lt_succ_self _)
  have below : ∀ b, b < s.heap.objs.size → b ≠ H2.objs.size ∧ b ≠ s.heap.objs.size := fun b hb => ⟨by rw [hC]; exact Nat.ne_of_lt (Nat.lt_succ_of_lt hb), Nat.ne_of_lt hb⟩
  have old : ∀ b o, s.heap.get? b = some o → h₁.get? b = some o := fun b o e => hsb₁.extBut b o (below b (Heap.lt_size e)).1 (Heap.get?_push_of_some _ (hH2 ▸ Heap.get?_push_of_some _ e))
  have hacc : h₁.DictOf (PySem.strKind p.prog p.w) s.heap.objs.size [] := hnew.at fun o e => hsb₁.extBut _ _ hDC (Heap.get?_push_of_some _ e)
  have fD := hn.st.freeOf (Heap.get?_none_of_le (h := s.heap) (Nat.le_refl s.heap.objs.size))
  have fC := hn.st.freeOf (Heap.get?_none_of_le (h := s.heap) (a := H2.objs.size) (by rw [hC]; exact Nat.le_succ _))
  have hID : I ≠ s.heap.objs.size := by
    obtain ⟨oI, T, ho, _⟩ := it.obj 0 _ S0
    exact Nat.ne_of_lt (Heap.lt_size ho)
  have hIC : I ≠ H2.objs.size := by
    obtain ⟨oI, T, ho, _⟩ := it.obj 0 _ S0
    rw [hC]; exact Nat.ne_of_lt (Nat.lt_succ_of_lt (Heap.lt_size ho))
  have hCg : p.g.objs.size ≤ H2.objs.size := by rw [hC]; exact Nat.le_succ_of_le hlt
  have nsC : h₁.Ns H2.objs.size fun x => ([] : List (Str × Value)).reverse.lookup x := hns₁
  generalize hDe : s.heap.objs.size = D at *
  generalize hCe : H2.objs.size = C at *
  have hFC : Fo C = none := fC.2.1
  have st₀ : StP p Z (upd Fo C []) H { s with heap := h₁, toks := s.toks + ([] : List (Str × Value)).length } := by
    refine ⟨fun b o e => old b o (hn.st.base b o e), fun b o e => old b o (hn.st.z b o e), hn.st.zb, fun b o e => (hn.st.own b o e).keep _ _ (Le.refl _) (fun o e => old b o e), hn.st.hb, fun b ρ' e => ?_, fun b ρ' e => ?_, fun _ _ e => e, hn.st.gens, hn.st.os⟩
    · by_cases hb : b = C
      · subst hb; rw [upd_same] at e; cases e; exact ⟨_, nsC, fun x v q => by cases q⟩
      · rw [upd_ne hb] at e
        obtain ⟨m, h1, h2⟩ := hn.st.fr b ρ' e
        exact ⟨m, h1.keeps old, h2⟩
    · by_cases hb : b = C
      · subst hb; exact ⟨fC.2.2.2, fC.1, fC.2.2.1⟩
      · rw [upd_ne hb] at e; exact hn.st.fb b ρ' e
  have fI₀ : Free p Z (upd Fo C []) (upd H D (.dstr [])) I := ⟨fr.1, by rw [upd_ne hIC]; exact fr.2.1, by rw [upd_ne hID]; exact fr.2.2.1, fr.2.2.2⟩
  have fD₀ : Free p Z (upd Fo C []) H D := ⟨fD.1, by rw [upd_ne hDC]; exact fD.2.1, fD.2.2.1, fD.2.2.2⟩
  have st₁ := St.claim (o := .dstr []) st₀ fD₀ ⟨[], hacc, .nil⟩
  have frs : ∀ {ρ'}, FrOK (upd Fo C ρ') c.fr := fun {ρ'} => hn.fr.upd
  have S1 : S 0 h₁ := by
    obtain ⟨fp, wr, P, W, hP, hwr, hfp⟩ := it.walks
    exact (W c.A hh).frame _ _ _ S0 fun b _ o e => old b o e
  have loop : ∀ s₃ : Shared, s₃ = { s with heap := h₁, toks := s.toks + ([] : List (Str × Value)).length } →
      codeAny (M p) c.A (.compLoop (.DictComp kx vx [⟨.Name x px, iter, ifs, 0⟩] scope pos) 0 (.ref I) (.ref D) (compEnvC scope cl C c.env)) (RR (.ref D) C) s₃ := by
    rintro s₃ rfl
    refine codeAny_compLoop_testsD (fun k s' => ∃ i Z₃ H₃ acc, k = items.length + 1 - i ∧ i ≤ items.length ∧ Le Z Z₃ ∧ StP p Z₃ (upd Fo C []) (upd H₃ D (.dstr acc)) s' ∧ H₃ D = none ∧ Free p Z₃ (upd Fo C []) (upd H₃ D (.dstr acc)) I ∧ Iter p Z₃ I items S ∧ S i s'.heap ∧ Inv i acc H₃) ?_ (items.length + 1)
      ⟨0, Z, H, [], rfl, Nat.zero_le _, Le.refl _, st₁, fD.2.2.1, fI₀, it, S1, K.i0⟩
    rintro k s' ⟨i, Z₃, H₃, acc, rfl, hi, z3, st3, hH3D, fI3, it3, Si, hI⟩
    obtain ⟨fp, wr, P, W, hP, hwr, hfp⟩ := it3.walks
    have W := W c.A hh
    by_cases hlt : i < items.length
    · refine W.item i _ _ _ hlt Si fun xv h' tk hPx Si' hk => ?_
      obtain ⟨v, hv, rv⟩ := hP i xv hPx hlt
      have st4 := st3.but fI3 (h' := h') (tk := tk) fun b o hb e => hk b o (fun m => hb (hwr b m)) e
      obtain ⟨oI, T, hoI, hcT, hT⟩ := it3.obj _ _ Si'
      obtain ⟨z5, st5⟩ := st4.adopt fI3 hoI
      have now5 : Now p (compCx c scope cl C) (upd Z₃ I oI) (upd Fo C []) [] (upd H₃ D (.dstr acc)) { s' with heap := h', toks := tk } := ⟨st5, upd_same .., frs, hn.n⟩
      have hHC : H₃ C = none := K.dom _ _ _ C hI fC.2.2.1
      refine wpAny_mono (K.turn C D i v acc H₃ hCg hv hI hHC hH3D hDC _ _ _ xv now5 (rv.mono z5)) (fun _ s₇ ⟨Z₇, ρ₇, H₇, z7, st7, h7⟩ => ?_) (fun u s₂ e => e.no)
      have st7' : StP p Z₇ (upd Fo C ρ₇) H₇ s₇ := by
        have := st7; rwa [show (compCx c scope cl C).L = C from rfl, upd_upd] at this
      have now7 : Now p (compCx c scope cl C) Z₇ (upd Fo C ρ₇) ρ₇ H₇ s₇ := ⟨st7', upd_same .., frs, hn.n⟩
      have goOn : ∀ Z₈ H₈ acc' s₈, Le (upd Z₃ I oI) Z₈ → StP p Z₈ (upd Fo C ρ₇) (upd H₈ D (.dstr acc')) s₈ → H₈ D = none → Inv (i + 1) acc' H₈ →
          ∃ m, m < items.length + 1 - i ∧ ∃ i Z₃ H₃ acc, m = items.length + 1 - i ∧ i ≤ items.length ∧ Le Z Z₃ ∧ StP p Z₃ (upd Fo C []) (upd H₃ D (.dstr acc)) s₈ ∧ H₃ D = none ∧ Free p Z₃ (upd Fo C []) (upd H₃ D (.dstr acc)) I ∧ Iter p Z₃ I items S ∧ S i s₈.heap ∧ Inv i acc H₃ := fun Z₈ H₈ acc' s₈ z8 st8 h8 hI8 => by
        have hZI : Z₈ I = some oI := z8 _ _ (upd_same ..)
        obtain ⟨fI9, st9⟩ := St.erase st8 hZI hcT hT
        have less : StP p (Mine.erase Z₈ I) (upd Fo C []) (upd H₈ D (.dstr acc')) s₈ := st9.less fun b ρ₁ e => by
          by_cases hb : b = C
          · subst hb; rw [upd_same] at e; cases e; exact ⟨ρ₇, upd_same .., fun y v q => by cases q⟩
          · rw [upd_ne hb] at e; exact ⟨ρ₁, by rw [upd_ne hb]; exact e, fun _ _ h => h⟩
        have noF : ∀ b, b ≠ C → upd Fo C ρ₇ b = none → upd Fo C [] b = none := fun b hb e => by rw [upd_ne hb] at e ⊢; exact e
        have z9 : Le Z₃ (Mine.erase Z₈ I) := fun b o e => by
          have hbI : b ≠ I := fun q => by rw [q, fI3.1] at e; cases e
          rw [erase_ne hbI]
          exact z8 _ _ (by rw [upd_ne hbI]; exact e)
        refine ⟨items.length + 1 - (i + 1), by omega, i + 1, _, H₈, acc', rfl, hlt, z3.trans z9, less, h8, ⟨fI9.1, noF I hIC fI9.2.1, fI9.2.2⟩, it3.mono z9, ?_, hI8⟩
        refine W.frame _ _ _ Si' fun b hb o e => ?_
        rcases hfp b hb with rfl | ⟨o', ho'⟩
        · rw [hoI] at e; cases e; exact st8.z _ _ hZI
        · have e1 := st8.z _ _ (z8 _ _ (z5 _ _ ho'))
          have e2 := st5.z _ _ (z5 _ _ ho')
          rw [show h'.get? b = some o' from e2] at e
          cases e; exact e1
      have fin : ∀ (ok : Bool) H₅ Z₈ s₈, (if ok = true then EW p (compCx c scope cl C) ρ₇ H₅ (eval kx (compCx c scope cl C).env) (fun kv H₆ => ∃ k, kv = .str k ∧ EW p (compCx c scope cl C) ρ₇ H₆ (eval vx (compCx c scope cl C).env) (fun v H₇ =>
          ∃ H₈, H₇ = upd H₈ D (.dstr acc) ∧ H₈ D = none ∧ Inv (i + 1) (gst acc k v) H₈) NX) NX else ∃ H₈, H₅ = upd H₈ D (.dstr acc) ∧ H₈ D = none ∧ Inv (i + 1) acc H₈) → Le Z₇ Z₈ → StP p Z₈ (upd Fo C ρ₇) H₅ s₈ →
          (if ok = true then wpAny (M p) c.A (eval kx (compEnvC scope cl C c.env)) (fun kv s₄ => wpAny (M p) c.A (eval vx (compEnvC scope cl C c.env)) (fun vv s₅ => wpAny (M p) c.A (dictSet D kv vv) (fun _ s₆ => ∃ m, m < items.length + 1 - i ∧ ∃ i Z₃ H₃ acc, m = items.length + 1 - i ∧ i ≤ items.length ∧ Le Z Z₃ ∧ StP p Z₃ (upd Fo C []) (upd H₃ D (.dstr acc)) s₆ ∧ H₃ D = none ∧ Free p Z₃ (upd Fo C []) (upd H₃ D (.dstr acc)) I ∧ Iter p Z₃ I items S ∧ S i s₆.heap ∧ Inv i acc H₃)
              (notedBy (M p) c.A (compEnvC scope cl C c.env) fun e s' => RR (.ref D) C (.error e) s') s₅) (notedBy (M p) c.A (compEnvC scope cl C c.env) fun e s' => RR (.ref D) C (.error e) s') s₄) (notedBy (M p) c.A (compEnvC scope cl C c.env) fun e s' => RR (.ref D) C (.error e) s') s₈
            else ∃ m, m < items.length + 1 - i ∧ ∃ i Z₃ H₃ acc, m = items.length + 1 - i ∧ i ≤ items.length ∧ Le Z Z₃ ∧ StP p Z₃ (upd Fo C []) (upd H₃ D (.dstr acc)) s₈ ∧ H₃ D = none ∧ Free p Z₃ (upd Fo C []) (upd H₃ D (.dstr acc)) I ∧ Iter p Z₃ I items S ∧ S i s₈.heap ∧ Inv i acc H₃) := fun ok H₅ Z₈ s₈ h5 z8 st8 => by
        cases ok with
        | false =>
          simp only [Bool.false_eq_true, if_false] at h5 ⊢
          obtain ⟨H₈, rfl, h8, hI8⟩ := h5
          exact goOn Z₈ H₈ acc s₈ (z7.trans z8) st8 h8 hI8
        | true =>
          simp only [if_true] at h5 ⊢
          have now8 : Now p (compCx c scope cl C) Z₈ (upd Fo C ρ₇) ρ₇ H₅ s₈ := ⟨st8, upd_same .., frs, hn.n⟩
          refine wpAny_mono (h5 Z₈ _ s₈ now8) (fun u s₉ ⟨Z₉, H₉, v9, z9, st9, r9, k, hk9, h9⟩ => ?_) (fun u s₂ e => e.no)
          subst hk9
          cases r9
          have now9 : Now p (compCx c scope cl C) Z₉ (upd Fo C ρ₇) ρ₇ H₉ s₉ := ⟨st9, upd_same .., frs, hn.n⟩
          refine wpAny_mono (h9 Z₉ _ s₉ now9) (fun u s₁₀ ⟨Z₁₀, H₁₀, v10, z10, st10, r10, H₁₁, hH, hHD, hI11⟩ => ?_) (fun u s₂ e => e.no)
          subst hH
          have oD : (upd H₁₁ D (.dstr acc)) D = some (.dstr acc) := upd_same ..
          obtain ⟨kvs, hd, rr⟩ := st10.own D _ oD
          have hal := K.small _ _ _ hI
          have hlen := K.len
          refine wpAny_dictSet_pairs (knd := PySem.strKind p.prog p.w) (k := k) (hsz := by rw [← rr.len, sizeLine_eq]; omega) (by simp [PySem.strKind, Value.isStrOf]) hd fun h'' hm hs => ?_
          have st11 := st10.put (o' := .dstr (gst acc k v10)) (tk := s₁₀.toks + 1) oD hs.extBut ⟨_, hm, rr.put r10⟩
          rw [upd_upd] at st11
          exact goOn Z₁₀ H₁₁ _ _ (((z7.trans z8).trans z9).trans z10) st11 hHD hI11
      match ifs, h7 with
      | [], h7 => exact wpAny_tests_nil (fin true H₇ Z₇ s₇ h7 (Le.refl _) st7')
      | [t], h7 =>
        refine wpAny_tests_one (wpAny_mono (h7 Z₇ _ s₇ now7) (fun ok s₈ ⟨Z₈, H₈, z8, st8, h8⟩ => fin ok H₈ Z₈ s₈ h8 z8 st8) (fun u s₂ e => e.no))
      | _ :: _ :: _, h7 => exact h7.elim
    · have hie : i = items.length := by omega
      subst hie
      refine W.done _ _ _ Si fun h' tk hk => ?_
      have st4 := st3.but fI3 (h' := h') (tk := tk) fun b o hb e => hk b o (fun m => hb (hwr b m)) e
      exact hRR D C Z₃ H₃ acc _ z3 st4 hFC hDC hH3D hI
  exact codeAny_compStart_dict (loop _ rfl) (by
    obtain ⟨fp, wr, P, W, hP, hwr, hfp⟩ := it.walks
    exact (W c.A hh).self 0 _ _ _ S1 (loop _ rfl))
theorem E_DictComp {kx vx iter : Expr} {x : Str} {px : Pos} {ifs : List Expr} {scope : Scope} {cl : List (Str × Addr)} {pos : Pos} (hclos : closureFor scope c.env = pure cl)
    (h : EW p c ρ H (eval iter c.env) (fun v H₁ => IterW p c v H₁ (fun items H₂ => ∃ Inv, CompD p c scope cl x px ifs kx vx items H₂ Inv ∧
      ∀ acc H₃ D, Inv items.length acc H₃ → H₃ D = none → Q (.ref D) (upd H₃ D (.dstr acc)))) X)
    (hL : p.g.objs.size ≤ c.L) (hcell : scope.names.all (fun y => decide (y.2 ≠ .cell)) = true := by decide) (hkind : scope.kind = .function := by rfl)
    (hnames : scope.names.all (fun y => decide (y.2 = .local → scope.names.lookup y.1 = some .local)) = true := by decide)
    (hs : ∀ x, foldedSetIterable iter c.env x = pure x := by intro _; with_unfolding_all rfl) : EW p c ρ H (eval (.DictComp kx vx [⟨.Name x px, iter, ifs, 0⟩] scope pos) c.env) Q X := fun Z Fo s hn => by
  simp only [List.all_eq_true, decide_eq_true_eq] at hcell hnames
  rw [arm_eval_DictComp]
  refine wpAny_comprehension_free (use := none) rfl hs hclos hkind hnames (wpAny_mono (h Z Fo s hn) (fun u s₁ ⟨Z₁, H₁, v, z1, st1, r1, h1⟩ => wpAny_mono (h1 ρ Z₁ Fo s₁ u (hn.step st1) r1) (fun itv s₂ ⟨Z₂, I, S, items, H₂, hit, z2, st2, fr2, it2, S0, Inv, K, hQ⟩ => ?_) fun _ _ e => e.elim) fun _ _ e => e)
  subst hit
  refine comp_coreD (RR := fun acc C => compPost (M p) c.A (XPost p c Z Fo X) none (EPost p Z Fo Q) acc C) ((hn.step st1).step st2) fr2 it2 S0 K hcell hkind hL fun D C Z₃ H₃ acc s₃ z3 st3 hF hDC hHD hI => ?_
  obtain ⟨m, hns, _⟩ := st3.fr C [] (upd_same ..)
  exact ⟨m, hns, fun h' hs' => ⟨Z₃, _, _, (z1.trans z2).trans z3, but_C st3 hF hs', .ref _, hQ acc H₃ D hI hHD⟩⟩
end
theorem if_nt {A B : Prop} (h : B) : if (!true) = true then A else B := h
theorem if_nf {A B : Prop} (h : A) : if (!false) = true then A else B := h
theorem Os_range3 {p : Pm} {c : Cx} {ρ : LM} {H : HM} {X : XQ} {Q : V → HM → Prop} {a b d : Int} (hd : d ≠ 0) (hs : -1000000 ≤ b - a ∧ b - a ≤ 1000000) (hs' : -1000000 ≤ d ∧ d ≤ 1000000) (h : Q (.rng a b d) H) : Os p c ρ H (fun us => call (.type "range") us) [.int a, .int b, .int d] Q X := fun Z Fo s us hn r => by
  obtain ⟨u1, us, rfl, r1, r⟩ := r.inv
  obtain ⟨u2, us, rfl, r2, r⟩ := r.inv
  obtain ⟨u3, us, rfl, r3, r⟩ := r.inv
  rw [r.inv_nil]
  cases r1; cases r2; cases r3
  exact call_range_3 hd (rng_new hn h) (.inl (PyProof.noPylong_small (by omega)))
theorem U1.inComp {p : Pm} {n : Nat} {c : Cx} {H : HM} {xs0 gs0 : List Str} (F : Fn p n c xs0 gs0) {scope : Scope} {cl : List (Str × Addr)} {C : Addr} (hC : p.g.objs.size ≤ C) (xs gs : List Str) (vals : List (Option V)) {f : Value → Sem Unit} {v : V} {Q : LM → HM → Prop}
    (k : Fn p n (compCx c scope cl C) xs gs → (∀ x a, Ce c x a → scope.names.lookup x = some .free → cl.lookup x = some a → Ce (compCx c scope cl C) x a) → U1 p (compCx c scope cl C) (loc xs vals) H f v Q NX)
    (hloc : loc xs vals = [] := by rfl) (hsc : scopeL scope.names xs gs = true := by decide +kernel) (hk : scope.kind = .function := by rfl) (hgen : scope.isGenerator = false := by rfl) (hco : scope.isCoroutine = false := by rfl) :
    U1 p (compCx c scope cl C) [] H f v Q NX := by
  rw [← hloc]
  exact k (FnComp F hC hsc hk hgen hco) fun x a h1 h2 h3 => CeComp F h1 h2 h3
theorem BW.drop {p : Pm} {c : Cx} {ρ : LM} {H H' : HM} {X : XQ} {t : Sem Bool} {Q : Bool → HM → Prop} (k : Le H' H) (h : BW p c ρ H' t Q X) : BW p c ρ H t Q X := fun Z Fo s hn => h Z Fo s (hn.drop k)
theorem O2.drop {p : Pm} {c : Cx} {ρ : LM} {H H' : HM} {X : XQ} {f : Value → Value → Sem Value} {a b : V} {Q : V → HM → Prop} (k : Le H' H) (h : O2 p c ρ H' f a b Q X) : O2 p c ρ H f a b Q X := fun Z Fo s u v hn r1 r2 => h Z Fo s u v (hn.drop k) r1 r2
theorem B1.drop {p : Pm} {c : Cx} {ρ : LM} {H H' : HM} {X : XQ} {f : Value → Sem Bool} {a : V} {Q : Bool → HM → Prop} (k : Le H' H) (h : B1 p c ρ H' f a Q X) : B1 p c ρ H f a Q X := fun Z Fo s u hn r => h Z Fo s u (hn.drop k) r
theorem O1.drop {p : Pm} {c : Cx} {ρ : LM} {H H' : HM} {X : XQ} {f : Value → Sem Value} {a : V} {Q : V → HM → Prop} (k : Le H' H) (h : O1 p c ρ H' f a Q X) : O1 p c ρ H f a Q X := fun Z Fo s u hn r => h Z Fo s u (hn.drop k) r
theorem Le_upd {H : HM} {d2 : Addr} {o : AObj} (h : H d2 = none) : Le H (upd H d2 o) := Le.upd o h
end TextL32
section TextL33
open PySem PySem.W PyProof.Rows PySem.Calls PySem.MeetsSeq
section
variable {p : Pm} {n : Nat} {c : Cx} {ρ : LM} {H : HM} {X : XQ} {xs gs : List Str} {vals : List (Option V)} {Q : AF → LM → HM → Prop} {rest : List Stmt} {pos : Pos}
theorem swapped_3 (F : Fn p n c xs gs) {x y z : Str} {px py pz tp tp' : Pos} {k k' : Nat} {v w u : Expr} (hx : x ∈ xs) (hy : y ∈ xs) (hz : z ∈ xs) (hp : (py.line == px.line) = true) (hp2 : (pz.line == px.line) = true) (hne : x ≠ y ∧ x ≠ z ∧ y ≠ z)
    (hst : ([v, w, u].any fun | .Starred .. => true | _ => false) = false) (hf : [v, w, u].all (foldedForSure 8) = false) (hc : [v, w, u].all (constantsAlone 8) = false) :
    swappedStores [.Tuple [.Name x px, .Name y py, .Name z pz] k tp] (.Tuple [v, w, u] k' tp') c.env = pure (some [x, y, z]) := by
  have e1 := (F.loc x hx).1
  have e2 := (F.loc y hy).1
  have e3 := (F.loc z hz).1
  have nd : [x, y, z].eraseDups.length = 3 := by
    rw [List.eraseDups_cons]
    have h1 : (y == x) = false := by simpa using fun q : y = x => hne.1 q.symm
    have h2 : (z == x) = false := by simpa using fun q : z = x => hne.2.1 q.symm
    have h3 : (z == y) = false := by simpa using fun q : z = y => hne.2.2 q.symm
    simp [h1, h2]
    rw [List.eraseDups_cons]
    simp [h3]
    rfl
  have hfm : List.filterMap (fun x_1 => match x_1 with
      | Expr.Name id pos => if (c.env.kindOf id == some NameKind.local && pos.line == ((([Expr.Name x px, Expr.Name y py, Expr.Name z pz] : List Expr).head?.map (·.pos.line)).getD 0)) = true then some id else none
      | _ => none) [Expr.Name x px, Expr.Name y py, Expr.Name z pz] = [x, y, z] := by
    have hp' : py.line = px.line := by simpa using hp
    have hp2' : pz.line = px.line := by simpa using hp2
    simp [e1, e2, e3, hp', hp2', Expr.pos]
  unfold swappedStores
  dsimp only
  rw [F.block]
  refine Eq.trans (if_neg (by simp)) ?_
  refine Eq.trans (if_neg fun q => absurd (hst.symm.trans q) (by decide)) ?_
  have key : ∀ names : List Str, names = [x, y, z] → (if (names.length != [Expr.Name x px, Expr.Name y py, Expr.Name z pz].length || names.eraseDups.length != names.length) = true then (pure none : Sem (Option (List Str))) else
      if ([v, w, u].all (foldedForSure 8)) = true then pure none else if ([v, w, u].all (constantsAlone 8)) = true then (do unsupported "assign.tuple-of-constant-expressions:order-of-the-stores"; pure (some names)) else pure (some names)) = pure (some [x, y, z]) := by
    intro names hn
    subst hn
    rw [nd, hf, hc]; rfl
  exact key _ hfm
theorem K_AssignT3 (F : Fn p n c xs gs) {x y z : Str} {px py pz tp tp' : Pos} {k k' : Nat} {e1 e2 e3 : Expr} (hx : x ∈ xs) (hy : y ∈ xs) (hz : z ∈ xs)
    (h : EW p c ρ H (eval (.Tuple [e1, e2, e3] k' tp') c.env) (fun v H₁ => ∃ a b d, v = .tup [a, b, d] ∧ U1 p c ρ H₁ (storeName c.env z) d (fun ρ₁ H₁ => U1 p c ρ₁ H₁ (storeName c.env y) b (fun ρ₂ H₂ => U1 p c ρ₂ H₂ (storeName c.env x) a (fun ρ₃ H₃ => SW p c ρ₃ H₃ (execs rest c.env) Q X) X) X) X) X)
    (hp : (py.line == px.line) = true := by rfl) (hp2 : (pz.line == px.line) = true := by rfl) (hne : x ≠ y ∧ x ≠ z ∧ y ≠ z := by decide)
    (hst : ([e1, e2, e3].any fun | .Starred .. => true | _ => false) = false := by rfl) (hf : [e1, e2, e3].all (foldedForSure 8) = false := by rfl) (hc : [e1, e2, e3].all (constantsAlone 8) = false := by rfl)
    (hs : swapsWithSole [.Tuple [.Name x px, .Name y py, .Name z pz] k tp] (.Tuple [e1, e2, e3] k' tp') pos.line c.env = pure false := by with_unfolding_all rfl) :
    SW p c ρ H (execs (.Assign [.Tuple [.Name x px, .Name y py, .Name z pz] k tp] (.Tuple [e1, e2, e3] k' tp') pos :: rest) c.env) Q X := by
  refine S_cons fun Z Fo s hn => PyProof.Rows.Assign_Tuple_swapped (names := [x, y, z]) (wpAny_mono (h Z Fo s hn) (fun u s₁ ⟨Z₁, H₁, v, z1, st1, r1, a, b, d, hv, h1⟩ => ?_) fun _ _ e => e) hs (swapped_3 F hx hy hz hp hp2 hne hst hf hc)
  subst hv
  obtain ⟨t, us, rfl, ht, rs⟩ := r1.tupAt st1
  obtain ⟨u1, us, rfl, ra, rs⟩ := rs.inv
  obtain ⟨u2, us, rfl, rb, rs⟩ := rs.inv
  obtain ⟨u3, us, rfl, rd, rs⟩ := rs.inv
  rw [rs.inv_nil] at ht
  refine PySem.wpAny_unpackItems_tuple (A := c.A) (items := [u1, u2, u3].toArray) rfl ht fun h' hx' => ?_
  have st' : StP p Z₁ Fo H₁ { s₁ with heap := h' } := by
    refine st1.grow (tk := s₁.toks) fun b o e => hx' b o ?_ e
    exact Nat.ne_of_lt (Heap.lt_size e)
  have hn1 := hn.step st'
  refine assignInOrder_cons (wpAny_bindName (wpAny_mono (h1 Z₁ Fo _ u3 hn1 rd) (fun _ s₂ ⟨Z₂, ρ₂, H₂, z2, st2, h2⟩ => ?_) fun _ _ e => e.mono z1))
  have hn2 := hn1.stepL st2
  refine assignInOrder_cons (wpAny_bindName (wpAny_mono (h2 Z₂ _ _ u2 hn2 (rb.mono z2)) (fun _ s₃ ⟨Z₃, ρ₃, H₃, z3, st3, h3⟩ => ?_) fun _ _ e => (e.mono (z1.trans z2)).upd))
  have hn3 := hn2.stepL st3
  refine assignInOrder_cons (wpAny_bindName (wpAny_mono (h3 Z₃ _ _ u1 hn3 (ra.mono (z2.trans z3))) (fun _ s₄ ⟨Z₄, ρ₄, H₄, z4, st4, h4⟩ => ?_) fun _ _ e => ((e.mono ((z1.trans z2).trans z3)).upd).upd))
  refine assignInOrder_nil ⟨Z₄, ρ₄, H₄, .next, ((z1.trans z2).trans z3).trans z4, ?_, .next, h4⟩
  rw [upd_upd, upd_upd] at st4; exact st4
variable {Qb : V → HM → Prop} {E : Addr} {es : List (Int × V)}
theorem O_in_fdint {k : Int} (hE : H E = some (.fdint es)) (h : Qb (.bool (gva es k).isSome) H) : O2 p c ρ H (compareOp .In) (.int k) (.ref E) Qb X := fun Z Fo s u v hn r1 r2 => by
  obtain ⟨kvs, hz, hd, r⟩ := hn.st.own E _ hE
  cases r1; cases r2
  exact wpAny_in_of (knd := intKind p.prog p.w) (k := k) (by simp [intKind, Value.isInt]) (notSys hn hE) hd.mapOf (.mk' hn.st.toks (.bool _) (by rw [r.get.2]; exact h))
end
end TextL33
section TextL34
open PySem PySem.W PyProof.Rows PySem.Calls PySem.MeetsSeq
section
variable {p : Pm} {n : Nat} {c : Cx} {ρ : LM} {H : HM} {X : XQ} {Q : V → HM → Prop} {a : Addr} {vs : List V}
end
end TextL34
section TextL35
open PySem PySem.W PyProof.Rows PySem.Calls PySem.MeetsSeq
section
variable {p : Pm} {n : Nat} {c : Cx} {ρ : LM} {H : HM} {X : XQ} {Q : V → HM → Prop}
theorem O_slice_base {o : Expr} {hi : Option Expr} {sp : Pos} {y : Nat} {S : Addr} {us : List Value} {ns : List Int} (hS : p.g.IsList S us.toArray) (hI : IntsAre us ns) (hl : us.length ≤ 16000000) (h : ∀ D, H D = none → Q (.ref D) (upd H D (.list ((ns.take y).map .int))))
    (hs : ∀ q r, subscripted (.Slice none hi none sp) false q r = operate [r, q] (getItem q r) := by intro _ _; with_unfolding_all rfl) : O2 p c ρ H (fun x y => subscriptTail o (.Slice none hi none sp) x y) (.con (.ref S)) (.slc .none (.int (y : Int))) Q X := fun Z Fo s u v hn r1 r2 => by
  cases r1
  have L : s.heap.IsList S us.toArray := by obtain ⟨o, h1, h2⟩ := hS; exact ⟨o, hn.st.base _ _ h1, h2⟩
  cases r2 with
  | slc hZ rl ru =>
    have ho := hn.st.z _ _ hZ
    cases rl; cases ru
    refine tail_any L.typeIs slot_list_getitem.lookup (wpAny_getItem_list_slice L ⟨_, ho, rfl, rfl⟩ .none (.int _ _) .none (by simp) ?_ (by rw [sizeLine_eq]; simp; omega)) (hs _ _)
    rw [slicePick_upto']
    refine list_new (tk := s.toks) hn (m := 0) (us := (us.take y).toArray) (Heap.get?_none_of_le (Nat.le_refl _)) (fun b o q => Heap.get?_push_of_some _ q) (Heap.get?_push_size _ rfl) ?_ fun hH => h _ hH
    exact ints_rep (hI.take y)

theorem Top_cell2 {m : Nat} {A : Around} {f : Addr} {o : Obj} {fd : FuncData} {body : List Stmt} {y z z' : Str} {v : V} {Z : GM} {s : Shared} {u : Value} (hA : A.handled = none) (hAd : A.depth + 1 ≤ 998 - m) (hAf : A.frames = some []) (hAu : A.units + 3 ≤ 9000 - 10 * m) (hm : m < 600) (hnm : n ≤ m)
    (st : StP p Z (fun _ => none) H s) (hsz : p.g.objs.size ≤ s.heap.objs.size) (rv : RepV Z v u) (xs gs : List Str) (vals : List (Option V))
    (hb : ∀ u, bindArgs fd ⟨[u], []⟩ = pure [(y, u)]) (hcs : ∀ L, cellsFrom (L + 1) fd.scope.names [] = [(z', L + 1 + 1), (z, L + 1)]) (hzz : z ≠ z')
    (h : ∀ c a b, Fn p n c xs gs → c.Top → H c.L = none → Ce c z a → Ce c z' b → H a = none → H b = none → a ≠ b → a ≠ c.L → b ≠ c.L → SW p c (loc xs vals) (upd (upd H a (.cell none)) b (.cell none)) (execs body c.env) (fun af _ H' => Q (retV af) H') (fun C fs _ H' => False))
    (ho : (Mine.hd.heap_39 p.w.params).lookup f = some o := by k_is) (hdat : o.data = .func fd := by rfl) (hcd : codeIn (Mine.hd.heap_39 p.w.params) fd.code fd.qualname = true := by k_is) (hbody : fd.body = .stmts body := by rfl)
    (hclo : fd.closure = [] := by rfl) (hsc : scopeC fd.scope.names xs gs [z, z'] = true := by decide +kernel) (hy : fd.scope.names.lookup y = some .local := by rfl) (hvals : loc xs vals = [(y, v)] := by rfl)
    (hco : fd.scope.isCoroutine = false := by rfl) (hgen : fd.scope.isGenerator = false := by rfl) (hk : fd.scope.kind = .function := by rfl) (hgl : fd.globals = mainGlobals := by rfl) (hbt : fd.builtins = builtinsNs := by rfl) :
    codeAny (M p) A (.call (.ref f) ⟨[u], []⟩) (fun r s' => ∃ u Z' H' v, r = .ok (.ret u) ∧ StP p Z' (fun _ => none) H' s' ∧ RepV Z' v u ∧ Q v H') s := by
  have hX := p.X.keeps st.base
  have hroom : A.depth < recursionLimit := by show A.depth < 1000; omega
  refine codeAny_call_cells hroom (hX _ _ ho) hdat (p.T.nolimit.keeps st.base) (codeRec_of hX hcd) hbody (hb u) hclo (fun x hx => ?_) (fun s₁ IC => ?_) hco hgen hk
  · simp only [List.mem_cons, List.not_mem_nil, or_false] at hx
    subst hx
    exact .inl hy
  have hnone : s.heap.get? s.heap.objs.size = none := Heap.get?_none_of_le (Nat.le_refl _)
  obtain ⟨⟨⟨h', tk, rfl⟩, hns, hkeep, hfresh⟩, hcell, hap, hab⟩ := IC
  have hρ : RepM Z [(y, v)] (bindL (fun x => fd.scope.names.lookup x) [(y, u)] fun _ => none) := fun x w e => by
    unfold bindL bindL
    rw [if_pos hy]
    rw [lookup_cons_eq] at e
    by_cases q : x = y
    · rw [if_pos q] at e; cases e; exact ⟨u, by simp [q], rv⟩
    · rw [if_neg q] at e; cases e
  obtain ⟨hFL, st₀⟩ := st.push (tk := tk) (ρ := [(y, v)]) (L := s.heap.objs.size) hnone hkeep hns hρ
  have hfree : ∀ j, Free p Z (upd (fun _ => none) s.heap.objs.size [(y, v)]) H (s.heap.objs.size + 1 + j) := fun j => by
    have := st.freeOf (Heap.get?_none_of_le (h := s.heap) (a := s.heap.objs.size + 1 + j) (by omega))
    exact ⟨this.1, by rw [upd_ne (show (s.heap.objs.size + 1 + j : Nat) ≠ s.heap.objs.size by omega)], this.2.2.1, this.2.2.2⟩
  have hnd : ([(z, (none : Option V)), (z', none)].map (·.1)).Nodup := by simp [hzz]
  have st₁ := St.claimC (l := [(z, none), (z', none)]) (k := s.heap.objs.size + 1) st₀ fun j x i e => by
    refine ⟨hfree j, ?_⟩
    have hl : (callEnvC fd s.heap.objs.size f).cells.lookup x = some (s.heap.objs.size + 1 + j) := by
      show (cellsFrom (s.heap.objs.size + 1) fd.scope.names []).lookup x = _
      rw [hcs]; exact numC_lookup (l := [(z, none), (z', none)]) hnd e
    refine ⟨_, hcell x _ hl, ?_⟩
    cases i with
    | none => trivial
    | some w =>
      have := List.mem_of_getElem? e
      simp at this
  have hHL : H s.heap.objs.size = none := (st.freeOf hnone).2.2.1
  have hHc : ∀ j, H (s.heap.objs.size + 1 + j) = none := fun j => (hfree j).2.2.1
  generalize hL' : s.heap.objs.size = L at *
  let c : Cx := ⟨callEnvC fd L f, [callEnvC fd L f], m⟩
  have now' : Now p c Z (upd (fun _ => none) L [(y, v)]) [(y, v)] (upd (upd H (L + 1) (.cell none)) (L + 1 + 1) (.cell none)) { s with heap := h', toks := tk } := by
    refine ⟨st₁, upd_same .., fun env he => ?_, hm⟩
    rcases List.mem_cons.mp he with rfl | he
    · exact ⟨by show fd.scope.kind ≠ .module; rw [hk]; decide, L, rfl, _, upd_same ..⟩
    · cases he
  have F : Fn p n c xs gs ∧ (∀ x ∈ [z, z'], c.env.kindOf x = some .cell ∧ (x == ("__debug__" : Str)) = false) := by
    simp only [scopeC, Bool.and_eq_true, decide_eq_true_eq, List.all_eq_true, Bool.not_eq_true'] at hsc
    obtain ⟨⟨⟨s1, s3⟩, s4⟩, s5⟩ := hsc
    refine ⟨⟨hk, hgl, hbt, s1, fun x hx => s3 x hx, fun x hx => ⟨(s4 x hx).1.1, (s4 x hx).1.2, fun e => ?_⟩, hgen, hco, hsz, hnm⟩, fun x hx => s5 x hx⟩
    have := (s4 x hx).2; subst e; cases this
  obtain ⟨F, hc⟩ := F
  have e1 : c.env.cells = [(z', L + 1 + 1), (z, L + 1)] := hcs L
  have body' := h c (L + 1) (L + 1 + 1) F ⟨[], L, rfl, rfl⟩ hHL ⟨by rw [e1, List.lookup_cons, beq_eq_false_iff_ne.mpr hzz]; simp, (hc z (.head _)).1, (hc z (.head _)).2⟩ ⟨by rw [e1]; simp, (hc z' (.tail _ (.head _))).1, (hc z' (.tail _ (.head _))).2⟩
    (hHc 0) (hHc 1) (Nat.ne_of_lt (Nat.lt_succ_self _)) (Nat.succ_ne_self L) (Nat.ne_of_gt (Nat.lt_succ_of_lt (Nat.lt_succ_self L)))
  rw [hvals] at body'
  have body' := body' Z _ _ now'
  refine wpAny_mono (wpAny_AR body' hA hAd (by show (A.deeper _).frames = _; unfold Around.deeper; simp [hAf]; rfl) hAu) (fun fl s' ⟨Z', ρ', H', af, z, st, rf, q⟩ => ?_) (fun u s' x => ?_)
  · have st' : StP p Z' (fun _ => none) H' s' := StX.less st fun b ρ₁ e => by cases e
    cases rf with
    | next => exact ⟨_, Z', H', .none, rfl, st', .none, q⟩
    | brk => exact ⟨_, Z', H', .none, rfl, st', .none, q⟩
    | cont => exact ⟨_, Z', H', .none, rfl, st', .none, q⟩
    | ret rv => exact ⟨_, Z', H', _, rfl, st', rv, q⟩
  · obtain ⟨_, _, _, _, _, _, _, _, _, _, _, _, _, hx⟩ := x
    exact hx.elim
end
end TextL35
section Walks
open PySem PySem.W PyProof.Rows PySem.Calls
theorem fill : PySem.Challenge.rw_nn0237_01 = PySem.Challenge.rw_nn0237_01 ∧ Mine.hd.heap_39 = Mine.hd.heap_39 := by
  k_fill; exact ⟨rfl, rfl⟩
section BodyG1
theorem c_is_regular (p : Pm) : Callee p "is_regular" 37 := ⟨by k_is, by k_is⟩
theorem c_is_figure (p : Pm) : Callee p "is_figure" 44 := ⟨by k_is, by k_is⟩
theorem c_len (p : Pm) : Built p "len" (.builtin "len") := ⟨by k_is, rfl, .builtin⟩
theorem attr_C_data (p : Pm) : AttrOK p 147 "data" := ⟨by k_is, by k_is, by k_is⟩
theorem attr_C_at (p : Pm) : AttrOK p 147 "at" := ⟨by k_is, by k_is, by k_is⟩
theorem attr_C_end (p : Pm) : AttrOK p 147 "end" := ⟨by k_is, by k_is, by k_is⟩
theorem store_C_at (p : Pm) : StoreOK p 147 "at" := by constructor <;> k_is

def curs (l : List UInt8) (k : Nat) : List (Str × V) := [("data", .bytes l), ("at", .int (k : Int)), ("end", .int (l.length : Int))]
abbrev Cu (H : HM) (d : Addr) (l : List UInt8) (k : Nat) : HM := upd H d (.flds (curs l k))
def NXc : Addr → LM → HM → Prop := fun _ _ _ => False
section
variable {p : Pm} {n : Nat} {c : Cx} {ρ : LM} {H H0 : HM} {X : XQ} {Q : V → HM → Prop} {Qu : LM → HM → Prop} {a d : Addr} {l : List UInt8} {k : Nat}
theorem A_C_data (h : Q (.bytes l) (Cu H0 d l k)) : O1 p c ρ (Cu H0 d l k) (fun u => getAttr u "data" true) (.ob 147 a d) Q X := O_getAttr (attr_C_data p) (upd_same ..) rfl (by intro x h; cases h) h
theorem A_C_at (h : Q (.int (k : Int)) (Cu H0 d l k)) : O1 p c ρ (Cu H0 d l k) (fun u => getAttr u "at" true) (.ob 147 a d) Q X := O_getAttr (attr_C_at p) (upd_same ..) rfl (by intro x h; cases h) h
theorem A_C_end (h : Q (.int (l.length : Int)) (Cu H0 d l k)) : O1 p c ρ (Cu H0 d l k) (fun u => getAttr u "end" true) (.ob 147 a d) Q X := O_getAttr (attr_C_end p) (upd_same ..) rfl (by intro x h; cases h) h
theorem U_C_at {k' : Nat} (h : Qu ρ (Cu H0 d l k')) : U2 p c ρ (Cu H0 d l k) (fun ov v => setAttr ov "at" v) (.ob 147 a d) (.int (k' : Int)) Qu X :=
  O_setAttr (store_C_at p) (upd_same ..) (show 3 ≤ 900 by omega) (by rw [upd_upd]; exact h)
theorem O_addN {a b : Nat} (h : Q (.int ((a + b : Nat) : Int)) H) : O2 p c ρ H (binaryOp .Add) (.int (a : Int)) (.int (b : Int)) Q X := O_add (by rw [← Int.natCast_add]; exact h)
theorem O_addL {a b : Nat} (h : Q (.int ((a + OfNat.ofNat b : Nat) : Int)) H) : O2 p c ρ H (binaryOp .Add) (.int (a : Int)) (.int (OfNat.ofNat b)) Q X := O_add h
theorem O_item_B {o i : Expr} (hfit : l.length ≤ 16777216) (h1 : k < l.length) (h : Q (.int (byt l k)) H)
    (hs : ∀ x y, subscripted i false x y = operate [x, y] (getItem x y) := by intro _ _; with_unfolding_all rfl) : O2 p c ρ H (fun x y => subscriptTail o i x y) (.bytes l) (.int (k : Int)) Q X :=
  O_item_bytes hfit (by omega) (by omega) h hs
end

section
variable {p : Pm} {H : HM} {Q : V → HM → Prop}
theorem CW_0 {n : Nat} {f : Addr} {o : Obj} {fd : FuncData} {body : List Stmt} {params : List Str} {vs : List V} {Xc : Addr → LM → HM → Prop} (xs gs : List Str) (vals : List (Option V))
    (hb : ∀ us : List Value, us.length = vs.length → bindArgs fd ⟨us, []⟩ = pure (params.zip us))
    (h : ∀ c, Fn p n c xs gs → c.Top → H c.L = none → SW p c (loc xs vals) H (execs body c.env) (fun af _ H' => Q (retV af) H') (fun C fs _ H' => Xc C fs H'))
    (ho : (Mine.hd.heap_39 p.w.params).lookup f = some o := by k_is) (hdat : o.data = .func fd := by rfl) (hcd : codeIn (Mine.hd.heap_39 p.w.params) fd.code fd.qualname = true := by k_is) (hbody : fd.body = .stmts body := by rfl)
    (hsc : scopeOK fd.scope.names params xs gs = true := by decide +kernel)
    (hco : fd.scope.isCoroutine = false := by rfl) (hgen : fd.scope.isGenerator = false := by rfl) (hk : fd.scope.kind = .function := by rfl) (hgl : fd.globals = mainGlobals := by rfl) (hbt : fd.builtins = builtinsNs := by rfl)
    (hvals : params.zip (vs ++ []) = loc xs vals := by rfl) : CW p (n + 1) (.ref f) vs H Q Xc :=
  CW_fn xs gs vals ho hdat hcd hbody hsc (fun s us X hl => ⟨[], .of_eq (by rw [List.append_nil]; exact hb us hl), fun Z => .nil⟩) hco hgen hk hgl hbt hvals h
theorem CW_D {n : Nat} {f T : Addr} {o oT : Obj} {fd : FuncData} {body : List Stmt} {params : List Str} {vs : List V} {Xc : Addr → LM → HM → Prop} {m : Nat} {all : Array Value} (xs gs : List Str) (vals : List (Option V)) (dvs : List V) (dus : List Value) (rdv : ∀ Z, RepVs Z dvs dus)
    (hb : ∀ us : List Value, us.length = vs.length → ∃ k : Option (Array Value) → Sem (List (Str × Value)), bindArgs fd ⟨us, []⟩ = seqItems? fd.defaults >>= k ∧ k (some all) = pure (params.zip (us ++ dus)))
    (h : ∀ c, Fn p n c xs gs → c.Top → H c.L = none → SW p c (loc xs vals) H (execs body c.env) (fun af _ H' => Q (retV af) H') (fun C fs _ H' => Xc C fs H'))
    (ho : (Mine.hd.heap_39 p.w.params).lookup f = some o := by k_is) (hdat : o.data = .func fd := by rfl) (hdef : fd.defaults = .ref T := by rfl) (hT : (Mine.hd.heap_39 p.w.params).lookup T = some oT := by k_is) (hTd : oT.data = .seq all m := by rfl)
    (hcd : codeIn (Mine.hd.heap_39 p.w.params) fd.code fd.qualname = true := by k_is) (hbody : fd.body = .stmts body := by rfl)
    (hsc : scopeOK fd.scope.names params xs gs = true := by decide +kernel)
    (hco : fd.scope.isCoroutine = false := by rfl) (hgen : fd.scope.isGenerator = false := by rfl) (hk : fd.scope.kind = .function := by rfl) (hgl : fd.globals = mainGlobals := by rfl) (hbt : fd.builtins = builtinsNs := by rfl)
    (hvals : params.zip (vs ++ dvs) = loc xs vals := by rfl) : CW p (n + 1) (.ref f) vs H Q Xc :=
  CW_fn xs gs vals ho hdat hcd hbody hsc (fun s us X hl => by obtain ⟨k, h1, h2⟩ := hb us hl; exact ⟨dus, binds_K X hdef hT hTd h1 h2, rdv⟩) hco hgen hk hgl hbt hvals h
end
def CWd (p : Pm) (n : Nat) (f : Value) (vs : List V) (H : HM) (v0 : V) (H1 : HM) : Prop := CW p n f vs H (fun v H' => v = v0 ∧ H' = H1) NXc
section
variable {p : Pm} {n : Nat} {c : Cx} {ρ : LM} {H H0 H1 : HM} {X : XQ} {Q : V → HM → Prop} {Qu : LM → HM → Prop} {a d : Addr} {l : List UInt8} {k : Nat} {xs gs : List Str}
theorem F_callE (F : Fn p n c xs gs) {m : Nat} {f : Value} {vs : List V} {v0 : V} (h : CWd p m f vs H v0 H1) (hn : m ≤ n) (q : Q v0 H1) : Os p c ρ H (fun us => call f us) vs Q X :=
  F.call h hn (fun v H' ⟨hv, hH⟩ => by subst hv; subst hH; exact q) (fun _ _ _ h => h.elim)
structure CM (p : Pm) (name : Str) (f : Addr) : Prop where
  meth : MethOK p 147 name f
  keep : keepIn (Mine.hd.heap_39 p.w.params) (.ref f) = true
  no : name ≠ "data" ∧ name ≠ "at" ∧ name ≠ "end"
theorem curs_no {name : Str} (h : name ≠ "data" ∧ name ≠ "at" ∧ name ≠ "end") : (curs l k).lookup name = none := by
  unfold curs
  rw [lookup_cons_eq, lookup_cons_eq, lookup_cons_eq, if_neg h.1, if_neg h.2.1, if_neg h.2.2]; rfl
theorem G_C {name : Str} {f : Addr} {Qm : Value → List V → HM → Prop} (m : CM p name f) (h : KeepOK p (.ref f) → Qm (.ref f) [.ob 147 a d] (Cu H0 d l k)) : G1 p c ρ (Cu H0 d l k) name (.ob 147 a d) Qm X :=
  G_inst m.meth (upd_same ..) (curs_no m.no) (h (.ref m.keep))
end
theorem m_is_done (p : Pm) : CM p "is_done" 66 := ⟨by constructor <;> k_is, by k_is, by decide⟩
theorem m_peek (p : Pm) : CM p "peek" 74 := ⟨by constructor <;> k_is, by k_is, by decide⟩
theorem m_take (p : Pm) : CM p "take" 81 := ⟨by constructor <;> k_is, by k_is, by decide⟩
theorem m_starts (p : Pm) : CM p "starts" 88 := ⟨by constructor <;> k_is, by k_is, by decide⟩
theorem m_skip (p : Pm) : CM p "skip" 95 := ⟨by constructor <;> k_is, by k_is, by decide⟩
theorem m_skip_white (p : Pm) : CM p "skip_white" 102 := ⟨by constructor <;> k_is, by k_is, by decide⟩
theorem m_take_regular (p : Pm) : CM p "take_regular" 109 := ⟨by constructor <;> k_is, by k_is, by decide⟩
theorem m_skip_line_end (p : Pm) : CM p "skip_line_end" 116 := ⟨by constructor <;> k_is, by k_is, by decide⟩
theorem m_number (p : Pm) : CM p "number" 130 := ⟨by constructor <;> k_is, by k_is, by decide⟩
def isInt (i : Int) : Value → Bool
  | .int j _ => j == i
  | _ => false
def intV : Value → Option Int
  | .int j _ => some j
  | _ => none
structure KTup (p : Pm) (a : Addr) (ks : List Int) : Prop where
  ok : ∃ o n us, (Mine.hd.heap_39 p.w.params).lookup a = some o ∧ o.cls = .type "tuple" ∧ o.data = .seq us n ∧ us.toList.map intV = ks.map some
section
variable {p : Pm} {n : Nat} {c : Cx} {ρ : LM} {H H0 H1 : HM} {X : XQ} {Q : V → HM → Prop} {Z : GM} {Fo : FM} {s : Shared}
theorem ints_any {i : Int} : ∀ {us : List Value} {ks : List Int}, us.map intV = ks.map some → us.any (isInt i) = decide (i ∈ ks)
  | [], [], _ => by simp
  | u :: us, k :: ks, h => by
    simp only [List.map_cons, List.cons.injEq] at h
    rw [List.any_cons, ints_any h.2]
    have hu : ∃ t, u = .int k t := by
      cases u <;> simp [intV] at h <;> first | exact ⟨_, by rw [h.1]⟩ | skip
    obtain ⟨t, rfl⟩ := hu
    by_cases e : i = k
    · subst e; simp [isInt]
    · have e' : ¬ k = i := fun q => e q.symm
      simp [isInt, e, e']
  | [], _ :: _, h => by simp at h
  | _ :: _, [], h => by simp at h
theorem O_inK {a : Addr} {i : Int} {ks : List Int} (K : KTup p a ks) (h : Q (.bool (decide (i ∈ ks))) H) : O2 p c ρ H (compareOp .In) (.int i) (.con (.ref a)) Q X := fun Z Fo s u v hn r1 r2 => by
  obtain ⟨o, m, us, h1, h2, h3, h4⟩ := K.ok
  cases r1; cases r2
  refine SeqAt.in_tupleAt (isInt i) ⟨o, p.X.keeps hn.st.base _ _ h1, h2, _, h3⟩ (fun y hy => ?_) (.mk' hn.st (.bool _) (by rw [← Array.any_toList, ints_any h4]; exact h))
  have : intV y ∈ us.toList.map intV := List.mem_map_of_mem (by simpa using hy)
  rw [h4, List.mem_map] at this
  obtain ⟨k, _, e⟩ := this
  cases y <;> simp [intV] at e
  exact fun prog w E Q hq => wpAny_eqBool_int hq
theorem O_ninK {a : Addr} {i : Int} {ks : List Int} (K : KTup p a ks) (h : Q (.bool (!decide (i ∈ ks))) H) : O2 p c ρ H (compareOp .NotIn) (.int i) (.con (.ref a)) Q X := fun Z Fo s u v hn r1 r2 => by
  obtain ⟨o, m, us, h1, h2, h3, h4⟩ := K.ok
  cases r1; cases r2
  refine SeqAt.notIn_tupleAt (isInt i) ⟨o, p.X.keeps hn.st.base _ _ h1, h2, _, h3⟩ (fun y hy => ?_) (.mk' hn.st (.bool _) (by rw [← Array.any_toList, ints_any h4]; exact h))
  have : intV y ∈ us.toList.map intV := List.mem_map_of_mem (by simpa using hy)
  rw [h4, List.mem_map] at this
  obtain ⟨k, _, e⟩ := this
  cases y <;> simp [intV] at e
  exact fun prog w E Q hq => wpAny_eqBool_int hq
def GInt (p : Pm) (x : Str) (i : Int) : Prop := ∃ t, nsIn (Mine.hd.heap_39 p.w.params) mainGlobals x = some (some (.int i t))
def GRef (p : Pm) (x : Str) (a : Addr) : Prop := nsIn (Mine.hd.heap_39 p.w.params) mainGlobals x = some (some (.ref a))
variable {xs gs : List Str} {x : Str} {pos : Pos}
theorem G_int (F : Fn p n c xs gs) {i : Int} (hg : x ∈ gs) (e : GInt p x i) (h : Q (.int i) H) : EW p c ρ H (eval (.Name x pos) c.env) Q X := by
  obtain ⟨t, e⟩ := e; exact G_ F hg e (fun Z => .int _ _) h
theorem G_ref (F : Fn p n c xs gs) {a : Addr} (hg : x ∈ gs) (e : GRef p x a) (h : Q (.con (.ref a)) H) : EW p c ρ H (eval (.Name x pos) c.env) Q X := G_ F hg e (fun Z => .con _) h
end
theorem k_white (p : Pm) : KTup p 22 [0, 9, 10, 12, 13, 32] := ⟨_, _, _, by k_is, rfl, rfl, rfl⟩
theorem k_delims (p : Pm) : KTup p 23 [40, 41, 60, 62, 91, 93, 123, 125, 47, 37] := ⟨_, _, _, by k_is, rfl, rfl, rfl⟩
theorem k_signs (p : Pm) : KTup p 316 [91, 93, 123, 125] := ⟨_, _, _, by k_is, rfl, rfl, rfl⟩
theorem g_WHITE (p : Pm) : GRef p "WHITE" 22 := by unfold GRef; k_is
theorem g_DELIMITERS (p : Pm) : GRef p "DELIMITERS" 23 := by unfold GRef; k_is
theorem g_SIGNS (p : Pm) : GRef p "SIGNS" 316 := by unfold GRef; k_is
theorem g_LINE_FEED (p : Pm) : GInt p "LINE_FEED" 10 := ⟨_, by k_is⟩
theorem g_RETURN (p : Pm) : GInt p "RETURN" 13 := ⟨_, by k_is⟩
theorem g_COMMENT (p : Pm) : GInt p "COMMENT" 37 := ⟨_, by k_is⟩
theorem g_MOST_FIGURES_cursor (p : Pm) : GInt p "MOST_FIGURES_cursor" 20 := ⟨_, by k_is⟩
theorem Turn_ret {p : Pm} {c : Cx} {xs : List Str} {I : List (Option V) → HM → Prop} {rest : List Stmt} {Q : AF → LM → HM → Prop} {X : XQ} {ρ : LM} {H : HM} {v : V} (h : Q (.ret v) ρ H) : Turn p c xs I rest Q X (.ret v) ρ H := h
theorem Turn_brk {p : Pm} {c : Cx} {xs : List Str} {I : List (Option V) → HM → Prop} {rest : List Stmt} {Q : AF → LM → HM → Prop} {X : XQ} {ρ : LM} {H : HM} (h : SW p c ρ H (execs rest c.env) Q X) : Turn p c xs I rest Q X .brk ρ H := h
theorem len_ok {vs : List V} {Q : Prop} (h : Nat.ble vs.length 1000 = true) (q : Q) : vs.length ≤ 1000 ∧ Q := ⟨Nat.le_of_ble_eq_true h, q⟩
end BodyG1
local macro_rules | `(tactic| walk_at "lv") => `(tactic| first | exact Lv.hd | exact (Lv.tl Lv.hd) | exact (Lv.tl (Lv.tl Lv.hd)) | exact (Lv.tl (Lv.tl (Lv.tl Lv.hd))) | exact (Lv.tl (Lv.tl (Lv.tl (Lv.tl Lv.hd)))) | exact (Lv.tl (Lv.tl (Lv.tl (Lv.tl (Lv.tl Lv.hd))))) | exact (Lv.tl (Lv.tl (Lv.tl (Lv.tl (Lv.tl (Lv.tl Lv.hd)))))) | exact (Lv.tl (Lv.tl (Lv.tl (Lv.tl (Lv.tl (Lv.tl (Lv.tl Lv.hd))))))) | exact (Lv.tl (Lv.tl (Lv.tl (Lv.tl (Lv.tl (Lv.tl (Lv.tl (Lv.tl Lv.hd)))))))) | exact (Lv.tl (Lv.tl (Lv.tl (Lv.tl (Lv.tl (Lv.tl (Lv.tl (Lv.tl (Lv.tl Lv.hd))))))))) | exact (Lv.tl (Lv.tl (Lv.tl (Lv.tl (Lv.tl (Lv.tl (Lv.tl (Lv.tl (Lv.tl (Lv.tl Lv.hd)))))))))) | exact (Lv.tl (Lv.tl (Lv.tl (Lv.tl (Lv.tl (Lv.tl (Lv.tl (Lv.tl (Lv.tl (Lv.tl (Lv.tl Lv.hd))))))))))) | exact (Lv.tl (Lv.tl (Lv.tl (Lv.tl (Lv.tl (Lv.tl (Lv.tl (Lv.tl (Lv.tl (Lv.tl (Lv.tl (Lv.tl Lv.hd)))))))))))) | exact (Lv.tl (Lv.tl (Lv.tl (Lv.tl (Lv.tl (Lv.tl (Lv.tl (Lv.tl (Lv.tl (Lv.tl (Lv.tl (Lv.tl (Lv.tl Lv.hd))))))))))))) | exact (Lv.tl (Lv.tl (Lv.tl (Lv.tl (Lv.tl (Lv.tl (Lv.tl (Lv.tl (Lv.tl (Lv.tl (Lv.tl (Lv.tl (Lv.tl (Lv.tl Lv.hd)))))))))))))) | exact (Lv.tl (Lv.tl (Lv.tl (Lv.tl (Lv.tl (Lv.tl (Lv.tl (Lv.tl (Lv.tl (Lv.tl (Lv.tl (Lv.tl (Lv.tl (Lv.tl (Lv.tl Lv.hd))))))))))))))) | exact (Lv.tl (Lv.tl (Lv.tl (Lv.tl (Lv.tl (Lv.tl (Lv.tl (Lv.tl (Lv.tl (Lv.tl (Lv.tl (Lv.tl (Lv.tl (Lv.tl (Lv.tl (Lv.tl Lv.hd)))))))))))))))))
local macro_rules | `(tactic| walk_at "sv") => `(tactic| first | exact Sv.hd | exact (Sv.tl Sv.hd) | exact (Sv.tl (Sv.tl Sv.hd)) | exact (Sv.tl (Sv.tl (Sv.tl Sv.hd))) | exact (Sv.tl (Sv.tl (Sv.tl (Sv.tl Sv.hd)))) | exact (Sv.tl (Sv.tl (Sv.tl (Sv.tl (Sv.tl Sv.hd))))) | exact (Sv.tl (Sv.tl (Sv.tl (Sv.tl (Sv.tl (Sv.tl Sv.hd)))))) | exact (Sv.tl (Sv.tl (Sv.tl (Sv.tl (Sv.tl (Sv.tl (Sv.tl Sv.hd))))))) | exact (Sv.tl (Sv.tl (Sv.tl (Sv.tl (Sv.tl (Sv.tl (Sv.tl (Sv.tl Sv.hd)))))))) | exact (Sv.tl (Sv.tl (Sv.tl (Sv.tl (Sv.tl (Sv.tl (Sv.tl (Sv.tl (Sv.tl Sv.hd))))))))) | exact (Sv.tl (Sv.tl (Sv.tl (Sv.tl (Sv.tl (Sv.tl (Sv.tl (Sv.tl (Sv.tl (Sv.tl Sv.hd)))))))))) | exact (Sv.tl (Sv.tl (Sv.tl (Sv.tl (Sv.tl (Sv.tl (Sv.tl (Sv.tl (Sv.tl (Sv.tl (Sv.tl Sv.hd))))))))))) | exact (Sv.tl (Sv.tl (Sv.tl (Sv.tl (Sv.tl (Sv.tl (Sv.tl (Sv.tl (Sv.tl (Sv.tl (Sv.tl (Sv.tl Sv.hd)))))))))))) | exact (Sv.tl (Sv.tl (Sv.tl (Sv.tl (Sv.tl (Sv.tl (Sv.tl (Sv.tl (Sv.tl (Sv.tl (Sv.tl (Sv.tl (Sv.tl Sv.hd))))))))))))) | exact (Sv.tl (Sv.tl (Sv.tl (Sv.tl (Sv.tl (Sv.tl (Sv.tl (Sv.tl (Sv.tl (Sv.tl (Sv.tl (Sv.tl (Sv.tl (Sv.tl Sv.hd)))))))))))))) | exact (Sv.tl (Sv.tl (Sv.tl (Sv.tl (Sv.tl (Sv.tl (Sv.tl (Sv.tl (Sv.tl (Sv.tl (Sv.tl (Sv.tl (Sv.tl (Sv.tl (Sv.tl Sv.hd))))))))))))))) | exact (Sv.tl (Sv.tl (Sv.tl (Sv.tl (Sv.tl (Sv.tl (Sv.tl (Sv.tl (Sv.tl (Sv.tl (Sv.tl (Sv.tl (Sv.tl (Sv.tl (Sv.tl (Sv.tl Sv.hd)))))))))))))))))
local macro_rules | `(tactic| walk_at "gm") => `(tactic| first | exact List.mem_cons_self | exact (List.mem_cons_of_mem _ List.mem_cons_self) | exact (List.mem_cons_of_mem _ (List.mem_cons_of_mem _ List.mem_cons_self)) | exact (List.mem_cons_of_mem _ (List.mem_cons_of_mem _ (List.mem_cons_of_mem _ List.mem_cons_self))) | exact (List.mem_cons_of_mem _ (List.mem_cons_of_mem _ (List.mem_cons_of_mem _ (List.mem_cons_of_mem _ List.mem_cons_self)))) | exact (List.mem_cons_of_mem _ (List.mem_cons_of_mem _ (List.mem_cons_of_mem _ (List.mem_cons_of_mem _ (List.mem_cons_of_mem _ List.mem_cons_self))))) | exact (List.mem_cons_of_mem _ (List.mem_cons_of_mem _ (List.mem_cons_of_mem _ (List.mem_cons_of_mem _ (List.mem_cons_of_mem _ (List.mem_cons_of_mem _ List.mem_cons_self)))))) | exact (List.mem_cons_of_mem _ (List.mem_cons_of_mem _ (List.mem_cons_of_mem _ (List.mem_cons_of_mem _ (List.mem_cons_of_mem _ (List.mem_cons_of_mem _ (List.mem_cons_of_mem _ List.mem_cons_self))))))) | exact (List.mem_cons_of_mem _ (List.mem_cons_of_mem _ (List.mem_cons_of_mem _ (List.mem_cons_of_mem _ (List.mem_cons_of_mem _ (List.mem_cons_of_mem _ (List.mem_cons_of_mem _ (List.mem_cons_of_mem _ List.mem_cons_self)))))))) | exact (List.mem_cons_of_mem _ (List.mem_cons_of_mem _ (List.mem_cons_of_mem _ (List.mem_cons_of_mem _ (List.mem_cons_of_mem _ (List.mem_cons_of_mem _ (List.mem_cons_of_mem _ (List.mem_cons_of_mem _ (List.mem_cons_of_mem _ List.mem_cons_self))))))))) | exact (List.mem_cons_of_mem _ (List.mem_cons_of_mem _ (List.mem_cons_of_mem _ (List.mem_cons_of_mem _ (List.mem_cons_of_mem _ (List.mem_cons_of_mem _ (List.mem_cons_of_mem _ (List.mem_cons_of_mem _ (List.mem_cons_of_mem _ (List.mem_cons_of_mem _ List.mem_cons_self)))))))))) | exact (List.mem_cons_of_mem _ (List.mem_cons_of_mem _ (List.mem_cons_of_mem _ (List.mem_cons_of_mem _ (List.mem_cons_of_mem _ (List.mem_cons_of_mem _ (List.mem_cons_of_mem _ (List.mem_cons_of_mem _ (List.mem_cons_of_mem _ (List.mem_cons_of_mem _ (List.mem_cons_of_mem _ List.mem_cons_self))))))))))) | exact (List.mem_cons_of_mem _ (List.mem_cons_of_mem _ (List.mem_cons_of_mem _ (List.mem_cons_of_mem _ (List.mem_cons_of_mem _ (List.mem_cons_of_mem _ (List.mem_cons_of_mem _ (List.mem_cons_of_mem _ (List.mem_cons_of_mem _ (List.mem_cons_of_mem _ (List.mem_cons_of_mem _ (List.mem_cons_of_mem _ List.mem_cons_self)))))))))))) | exact (List.mem_cons_of_mem _ (List.mem_cons_of_mem _ (List.mem_cons_of_mem _ (List.mem_cons_of_mem _ (List.mem_cons_of_mem _ (List.mem_cons_of_mem _ (List.mem_cons_of_mem _ (List.mem_cons_of_mem _ (List.mem_cons_of_mem _ (List.mem_cons_of_mem _ (List.mem_cons_of_mem _ (List.mem_cons_of_mem _ (List.mem_cons_of_mem _ List.mem_cons_self))))))))))))) | exact (List.mem_cons_of_mem _ (List.mem_cons_of_mem _ (List.mem_cons_of_mem _ (List.mem_cons_of_mem _ (List.mem_cons_of_mem _ (List.mem_cons_of_mem _ (List.mem_cons_of_mem _ (List.mem_cons_of_mem _ (List.mem_cons_of_mem _ (List.mem_cons_of_mem _ (List.mem_cons_of_mem _ (List.mem_cons_of_mem _ (List.mem_cons_of_mem _ (List.mem_cons_of_mem _ List.mem_cons_self)))))))))))))) | exact (List.mem_cons_of_mem _ (List.mem_cons_of_mem _ (List.mem_cons_of_mem _ (List.mem_cons_of_mem _ (List.mem_cons_of_mem _ (List.mem_cons_of_mem _ (List.mem_cons_of_mem _ (List.mem_cons_of_mem _ (List.mem_cons_of_mem _ (List.mem_cons_of_mem _ (List.mem_cons_of_mem _ (List.mem_cons_of_mem _ (List.mem_cons_of_mem _ (List.mem_cons_of_mem _ (List.mem_cons_of_mem _ List.mem_cons_self))))))))))))))) | exact (List.mem_cons_of_mem _ (List.mem_cons_of_mem _ (List.mem_cons_of_mem _ (List.mem_cons_of_mem _ (List.mem_cons_of_mem _ (List.mem_cons_of_mem _ (List.mem_cons_of_mem _ (List.mem_cons_of_mem _ (List.mem_cons_of_mem _ (List.mem_cons_of_mem _ (List.mem_cons_of_mem _ (List.mem_cons_of_mem _ (List.mem_cons_of_mem _ (List.mem_cons_of_mem _ (List.mem_cons_of_mem _ (List.mem_cons_of_mem _ List.mem_cons_self)))))))))))))))) | exact (List.mem_cons_of_mem _ (List.mem_cons_of_mem _ (List.mem_cons_of_mem _ (List.mem_cons_of_mem _ (List.mem_cons_of_mem _ (List.mem_cons_of_mem _ (List.mem_cons_of_mem _ (List.mem_cons_of_mem _ (List.mem_cons_of_mem _ (List.mem_cons_of_mem _ (List.mem_cons_of_mem _ (List.mem_cons_of_mem _ (List.mem_cons_of_mem _ (List.mem_cons_of_mem _ (List.mem_cons_of_mem _ (List.mem_cons_of_mem _ (List.mem_cons_of_mem _ List.mem_cons_self))))))))))))))))) | exact (List.mem_cons_of_mem _ (List.mem_cons_of_mem _ (List.mem_cons_of_mem _ (List.mem_cons_of_mem _ (List.mem_cons_of_mem _ (List.mem_cons_of_mem _ (List.mem_cons_of_mem _ (List.mem_cons_of_mem _ (List.mem_cons_of_mem _ (List.mem_cons_of_mem _ (List.mem_cons_of_mem _ (List.mem_cons_of_mem _ (List.mem_cons_of_mem _ (List.mem_cons_of_mem _ (List.mem_cons_of_mem _ (List.mem_cons_of_mem _ (List.mem_cons_of_mem _ (List.mem_cons_of_mem _ List.mem_cons_self)))))))))))))))))) | exact (List.mem_cons_of_mem _ (List.mem_cons_of_mem _ (List.mem_cons_of_mem _ (List.mem_cons_of_mem _ (List.mem_cons_of_mem _ (List.mem_cons_of_mem _ (List.mem_cons_of_mem _ (List.mem_cons_of_mem _ (List.mem_cons_of_mem _ (List.mem_cons_of_mem _ (List.mem_cons_of_mem _ (List.mem_cons_of_mem _ (List.mem_cons_of_mem _ (List.mem_cons_of_mem _ (List.mem_cons_of_mem _ (List.mem_cons_of_mem _ (List.mem_cons_of_mem _ (List.mem_cons_of_mem _ (List.mem_cons_of_mem _ List.mem_cons_self))))))))))))))))))))
local macro_rules | `(tactic| walk_at "le") => `(tactic| repeat (first | apply LeV.nil | apply LeV.eq | apply LeV.no))
local macro_rules | `(tactic| walk_at "attr") => `(tactic| first | ((show O1 _ _ _ _ (fun u => getAttr u (Str.ofString "at") true) (V.ob 147 _ _) _ _); (refine A_C_at ?_)) | ((show O1 _ _ _ _ (fun u => getAttr u (Str.ofString "data") true) (V.ob 147 _ _) _ _); (refine A_C_data ?_)) | ((show O1 _ _ _ _ (fun u => getAttr u (Str.ofString "end") true) (V.ob 147 _ _) _ _); (refine A_C_end ?_)) | walk_at "attr2")
local macro_rules | `(tactic| walk_at "g") => `(tactic| first | ((show G1 _ _ _ _ (Str.ofString "is_done") (V.ob 147 _ _) _ _); (refine G_C (m_is_done _) (fun hk => ⟨hk, ?_⟩))) | ((show G1 _ _ _ _ (Str.ofString "peek") (V.ob 147 _ _) _ _); (refine G_C (m_peek _) (fun hk => ⟨hk, ?_⟩))) | ((show G1 _ _ _ _ (Str.ofString "take") (V.ob 147 _ _) _ _); (refine G_C (m_take _) (fun hk => ⟨hk, ?_⟩))) | ((show G1 _ _ _ _ (Str.ofString "starts") (V.ob 147 _ _) _ _); (refine G_C (m_starts _) (fun hk => ⟨hk, ?_⟩))) | ((show G1 _ _ _ _ (Str.ofString "skip") (V.ob 147 _ _) _ _); (refine G_C (m_skip _) (fun hk => ⟨hk, ?_⟩))) | ((show G1 _ _ _ _ (Str.ofString "skip_white") (V.ob 147 _ _) _ _); (refine G_C (m_skip_white _) (fun hk => ⟨hk, ?_⟩))) | ((show G1 _ _ _ _ (Str.ofString "take_regular") (V.ob 147 _ _) _ _); (refine G_C (m_take_regular _) (fun hk => ⟨hk, ?_⟩))) | ((show G1 _ _ _ _ (Str.ofString "skip_line_end") (V.ob 147 _ _) _ _); (refine G_C (m_skip_line_end _) (fun hk => ⟨hk, ?_⟩))) | ((show G1 _ _ _ _ (Str.ofString "number") (V.ob 147 _ _) _ _); (refine G_C (m_number _) (fun hk => ⟨hk, ?_⟩))) | walk_at "g2")
local macro_rules | `(tactic| walk_at "w") => `(tactic| first
  | ((show EW _ _ _ _ _ _ _); first
      | ((show EW _ _ _ _ (eval (Expr.Name _ _) _) _ _); (refine L_ (by assumption) (by walk_at "lv") ?_))
      | ((show EW _ _ _ _ (eval (Expr.Attribute _ _ _) _) _ _); (refine E_Attr ?_))
      | ((show EW _ _ _ _ (eval (Expr.Constant (Const.int _) _ _) _) _ _); (refine E_int ?_))
      | ((show EW _ _ _ _ (eval (Expr.BinOp _ _ _ _) _) _ _); (refine E_BinOp ?_))
      | ((show EW _ _ _ _ (eval (Expr.Subscript _ _ _) _) _ _); (refine E_Sub ?_))
      | ((show EW _ _ _ _ (eval (Expr.Slice (some _) (some _) _ _) _) _ _); (refine E_Slice ?_))
      | ((show EW _ _ _ _ (eval (Expr.Slice (some _) none _ _) _) _ _); (refine E_SliceL ?_))
      | ((show EW _ _ _ _ (eval (Expr.Slice none (some _) _ _) _) _ _); (refine E_SliceU ?_))
      | ((show EW _ _ _ _ (eval (Expr.Compare _ [_] _ _) _) _ _); (refine E_Compare ?_))
      | ((show EW _ _ _ _ (eval (Expr.Constant (Const.str _) _ _) _) _ _); (refine E_str ?_))
      | ((show EW _ _ _ _ (eval (Expr.Constant (Const.bytes _) _ _) _) _ _); (refine E_bytes ?_))
      | ((show EW _ _ _ _ (eval (Expr.Constant (Const.bool _) _ _) _) _ _); (refine E_bool ?_))
      | ((show EW _ _ _ _ (eval (Expr.Constant Const.none _ _) _) _ _); (refine E_none ?_))
      | ((show EW _ _ _ _ (eval (Expr.UnaryOp _ _ _) _) _ _); (refine E_UnaryOp ?_))
      | ((show EW _ _ _ _ (eval (Expr.BoolOp _ _ _) _) _ _); (refine E_Bool ?_))
      | ((show EW _ _ _ _ (eval (Expr.IfExp _ _ _ _) _) _ _); (refine E_IfExp ?_))
      | ((show EW _ _ _ _ (eval (Expr.Call (Expr.Attribute _ _ _) _ _ _) _) _ _); (refine E_CallMeth ?_))
      | ((show EW _ _ _ _ (eval (Expr.Tuple _ _ _) _) _ _); (refine E_Tuple ?_))
      | ((show EW _ _ _ _ (eval (Expr.List _ _) _) _ _); (refine E_List ?_))
      | ((show EW _ _ _ _ (eval (Expr.Compare _ [_, _] _ _) _) _ _); (refine E_Compare2 ?_))
      | walk_at "hv"
      | walk_at "ex")
  | ((show SW _ _ _ _ _ _ _); first
      | ((show SW _ _ _ _ (execs (Stmt.Assign [Expr.Name _ _] _ _ :: _) _) _ _); (refine K_Assign ?_))
      | ((show SW _ _ _ _ (execs (Stmt.If _ _ _ _ :: _) _) _ _); (refine K_If ?_))
      | ((show SW _ _ _ _ (execs (Stmt.Return (some _) _ :: _) _) _ _); (refine K_Return ?_))
      | ((show SW _ _ _ _ (execs (Stmt.Assign [Expr.Attribute _ _ _] _ _ :: _) _) _ _); (refine K_AssignAttr ?_))
      | ((show SW _ _ _ _ (execs (Stmt.Expr _ _ :: _) _) _ _); (refine K_Expr (by assumption) ?_))
      | ((show SW _ _ _ _ (execs ([]) _) _ _); (refine K_nil ?_))
      | ((show SW _ _ _ _ (execs (Stmt.Return none _ :: _) _) _ _); (refine K_Return0 ?_))
      | ((show SW _ _ _ _ (execs (Stmt.Assign [Expr.Subscript _ _ _] _ _ :: _) _) _ _); (refine K_AssignSub ?_))
      | ((show SW _ _ _ _ (execs (Stmt.For _ _ _ [] _ :: _) _) _ _); (refine K_For (by assumption) ?_))
      | ((show SW _ _ _ _ (execs (Stmt.Assign [Expr.Tuple _ _ _] _ _ :: _) _) _ _); (refine K_AssignT ?_))
      | walk_at "hs"
      | walk_at "sx")
  | ((show O2 _ _ _ _ _ _ _ _ _); first
      | ((show O2 _ _ _ _ (binaryOp Operator.Add) _ _ _ _); first | (refine O_addN ?_) | (refine O_addL ?_) | (refine O_add ?_))
      | ((show O2 _ _ _ _ (binaryOp Operator.Sub) _ _ _ _); first | (refine O_sub ?_))
      | ((show O2 _ _ _ _ (compareOp CmpOp.Lt) _ _ _ _); first | (refine O_lt ?_))
      | ((show O2 _ _ _ _ (compareOp CmpOp.LtE) _ _ _ _); first | (refine O_le ?_))
      | ((show O2 _ _ _ _ (compareOp CmpOp.Gt) _ _ _ _); first | (refine O_gt ?_))
      | ((show O2 _ _ _ _ (compareOp CmpOp.GtE) _ _ _ _); first | (refine O_ge ?_))
      | ((show O2 _ _ _ _ (compareOp CmpOp.Eq) _ _ _ _); first | (refine O_eq ?_) | (refine O_eqB ?_) | (refine O_eqS ?_))
      | ((show O2 _ _ _ _ (compareOp CmpOp.NotEq) _ _ _ _); first | (refine O_ne ?_) | (refine O_neB ?_) | (refine O_neS ?_))
      | ((show O2 _ _ _ _ (compareOp CmpOp.In) _ _ _ _); first | (refine O_inI (by with_unfolding_all rfl) ?_) | (refine O_inB (by with_unfolding_all rfl) ?_) | (refine O_inS (by with_unfolding_all rfl) ?_) | (refine O_inK (k_white _) ?_) | (refine O_inK (k_signs _) ?_))
      | ((show O2 _ _ _ _ (compareOp CmpOp.NotIn) _ _ _ _); first | (refine O_ninI (by with_unfolding_all rfl) ?_) | (refine O_ninB (by with_unfolding_all rfl) ?_) | (refine O_ninK (k_white _) ?_) | (refine O_ninK (k_delims _) ?_))
      | ((show O2 _ _ _ _ (fun x y => subscriptTail _ _ x y) _ _ _ _); first | (refine O_item_B (by assumption) (by omega) ?_) | (refine O_slice_bytes (by with_unfolding_all rfl) (by with_unfolding_all rfl) (by assumption) ?_))
      | walk_at "hm"
      | ((show O2 _ _ _ _ _ _ _ _ _); walk_at "ox"))
  | ((show BW _ _ _ _ _ _ _); first
      | ((show BW _ _ _ _ (isTrue (Expr.Compare _ [_] _ _) _ _) _ _); (refine B_Compare ?_))
      | ((show BW _ _ _ _ (isTrue (Expr.BoolOp _ _ _) _ _) _ _); (refine B_And ?_))
      | ((show BW _ _ _ _ (allTrue BoolOp.And (_ :: _) _) _ _); (refine B_And_cons ?_))
      | ((show BW _ _ _ _ (allTrue BoolOp.Or (_ :: _) _) _ _); (refine B_Or_cons ?_))
      | ((show BW _ _ _ _ (allTrue BoolOp.And [] _) _ _); (refine B_And_nil ?_))
      | ((show BW _ _ _ _ (allTrue BoolOp.Or [] _) _ _); (refine B_Or_nil ?_))
      | ((show BW _ _ _ _ (isTrue (Expr.UnaryOp UnaryOp.Not _ _) _ _) _ _); (refine B_Not ?_))
      | ((show BW _ _ _ _ (isTrue (Expr.Compare _ [_, _] _ _) _ _) _ _); (refine B_Compare2 ?_))
      | ((show BW _ _ _ _ (_) _ _); (refine B_value ?_ (by with_unfolding_all rfl))))
  | ((show U1 _ _ _ _ (fun u => assign (Expr.Name _ _) _ u) _ _ _); refine U_asg ?_)
  | ((show U1 _ _ _ _ (fun u => assign (Expr.Tuple _ _ _) _ u) _ _ _); refine U_unp (by with_unfolding_all rfl) (by with_unfolding_all rfl) ?_)
  | ((show As _ _ _ _ _ _ _ _); first
      | refine As_cons ?_
      | refine As_nil ?_)
  | ((show U1 _ _ _ _ (storeName _ _) _ _ _); (refine U_ (by assumption) (by walk_at "sv") ?_))
  | ((show EWs _ _ _ _ _ _ _); first
      | ((show EWs _ _ _ _ (spliced (backTo _ (starEach [] _))) _ _); (refine Es_nil ?_))
      | (refine Es_cons ?_))
  | ((show VB _ _ _ _ _ _ _ _ _); first
      | ((show VB _ _ _ BoolOp.And _ (_ :: _ :: _) _ _ _); (refine VB_And ?_))
      | ((show VB _ _ _ BoolOp.Or _ (_ :: _ :: _) _ _ _); (refine VB_Or ?_))
      | (refine VB_one ?_))
  | ((show B1 _ _ _ _ _ _ _ _); first
      | ((show B1 _ _ _ _ _ (V.bool _) _ _); (refine T_bool ?_))
      | ((show B1 _ _ _ _ _ (V.int _) _ _); (refine T_int ?_))
      | ((show B1 _ _ _ _ _ V.none _ _); (refine T_none ?_))
      | walk_at "tx")
  | ((show O1 _ _ _ _ _ _ _ _); first
      | ((show O1 _ _ _ _ (unaryOp UnaryOp.USub) _ _ _); (refine O_neg ?_))
      | ((show O1 _ _ _ _ (unaryOp UnaryOp.Not) _ _ _); (refine O_not ?_))
      | walk_at "attr")
  | ((show Nx _ _ _ _ _ _ _ _); first
      | (refine Nx_next ?_)
      | (refine Nx_ret ?_)
      | (refine Nx_brk ?_)
      | (refine Nx_cont ?_))
  | ((show Turn _ _ _ _ _ _ _ _ _ _); first
      | (refine Turn_ret ?_)
      | (refine Turn_brk ?_))
  | ((show U2 _ _ _ _ _ _ _ _ _); first
      | (refine U_C_at ?_)
      | walk_at "u2")
  | ((show G1 _ _ _ _ _ _ _ _); walk_at "g")
  | ((show Os _ _ _ _ _ _ _ _); first
      | walk_at "hr"
      | (refine Os_len_bytes (by assumption) ?_)
      | walk_at "os")
  | refine if_f ?_
  | refine if_t ?_
  | walk_at "hi"
  | refine len_ok (by with_unfolding_all rfl) ?_)
local macro_rules | `(tactic| walk_at "W") => `(tactic| repeat with_reducible walk_at "w")
section Group1
local macro_rules | `(tactic| walk_at "hv") => `(tactic| first
  | ((show EW _ _ _ _ (eval (Expr.Call (Expr.Name (Str.ofString "is_regular") _) _ _ _) _) _ _); (refine C_fn (by assumption) (by walk_at "gm") (c_is_regular _) ?_))
  | ((show EW _ _ _ _ (eval (Expr.Call (Expr.Name (Str.ofString "is_figure") _) _ _ _) _) _ _); (refine C_fn (by assumption) (by walk_at "gm") (c_is_figure _) ?_))
  | ((show EW _ _ _ _ (eval (Expr.Call (Expr.Name (Str.ofString "len") _) _ _ _) _) _ _); (refine C_bt (by assumption) (by walk_at "gm") (c_len _) ?_))
  | ((show EW _ _ _ _ (eval (Expr.Name (Str.ofString "LINE_FEED") _) _) _ _); (refine G_int (by assumption) (by walk_at "gm") (g_LINE_FEED _) ?_))
  | ((show EW _ _ _ _ (eval (Expr.Name (Str.ofString "RETURN") _) _) _ _); (refine G_int (by assumption) (by walk_at "gm") (g_RETURN _) ?_))
  | ((show EW _ _ _ _ (eval (Expr.Name (Str.ofString "COMMENT") _) _) _ _); (refine G_int (by assumption) (by walk_at "gm") (g_COMMENT _) ?_))
  | ((show EW _ _ _ _ (eval (Expr.Name (Str.ofString "MOST_FIGURES_cursor") _) _) _ _); (refine G_int (by assumption) (by walk_at "gm") (g_MOST_FIGURES_cursor _) ?_))
  | ((show EW _ _ _ _ (eval (Expr.Name (Str.ofString "WHITE") _) _) _ _); (refine G_ref (by assumption) (by walk_at "gm") (g_WHITE _) ?_))
  | ((show EW _ _ _ _ (eval (Expr.Name (Str.ofString "DELIMITERS") _) _) _ _); (refine G_ref (by assumption) (by walk_at "gm") (g_DELIMITERS _) ?_))
  | ((show EW _ _ _ _ (eval (Expr.Name (Str.ofString "SIGNS") _) _) _ _); (refine G_ref (by assumption) (by walk_at "gm") (g_SIGNS _) ?_)))
section BodyF2
section
variable {p : Pm} {H : HM} {a d : Addr} {l : List UInt8} {k : Nat}
theorem peek0_spec (hl : l.length ≤ 16777216) : CWd p 1 (.ref 74) [.ob 147 a d] (Cu H d l k) (.int (pk l k)) (Cu H d l k) := by
  refine CW_D (params := ["self", "ahead"]) ["self", "ahead", "spot"] [] [some (.ob 147 a d), some (.int 0), none] [.int 0] [_] (fun Z => RepVs.cons (.int _ _) .nil) (fun us h => match us, h with | [u], _ => ⟨_, rfl, rfl⟩) ?_
  intro c F hT hL
  walk_at "W"
  refine if_dec (fun h => ?_) (fun h => ?_)
  · have h' : k < l.length := by omega
    walk_at "W"
    exact ⟨by simp [pk, h', retV], rfl⟩
  · have h' : ¬ k < l.length := by omega
    walk_at "W"
    exact ⟨by simp [pk, h', retV], rfl⟩
theorem is_figure_spec {i : Int} : CWd p 1 (.ref 44) [.int i] H (.bool (isFig i)) H := by
  refine CW_0 (params := ["code"]) ["code"] [] [some (.int i)] (fun us h => match us, h with | [u], _ => rfl) ?_
  intro c F hT hL
  walk_at "W"
  refine if_dec (fun h => ?_) (fun h => ?_)
  · walk_at "W"
    exact ⟨by simp [isFig, h, retV], rfl⟩
  · exact ⟨by simp [isFig, h, retV], rfl⟩
theorem is_regular_spec {i : Int} : CWd p 1 (.ref 37) [.int i] H (.bool (isReg i)) H := by
  refine CW_0 (params := ["code"]) ["code"] ["WHITE", "DELIMITERS"] [some (.int i)] (fun us h => match us, h with | [u], _ => rfl) ?_
  intro c F hT hL
  walk_at "W"
  refine if_dec (fun h => ?_) (fun h => ?_)
  · walk_at "W"
    refine if_ndec (fun h2 => ?_) (fun h2 => ?_)
    · walk_at "W"
      exact ⟨by simp only [isReg, h, h2, retV]; simp, rfl⟩
    · exact ⟨by simp only [isReg, h, h2, retV]; simp, rfl⟩
  · exact ⟨by simp [isReg, h, retV], rfl⟩
theorem is_done_spec : CWd p 1 (.ref 66) [.ob 147 a d] (Cu H d l k) (.bool (decide (l.length ≤ k))) (Cu H d l k) := by
  refine CW_0 (params := ["self"]) ["self"] [] [some (.ob 147 a d)] (fun us h => match us, h with | [u], _ => rfl) ?_
  intro c F hT hL
  walk_at "W"
  exact ⟨by simp [retV], rfl⟩
theorem take_spec (hl : l.length ≤ 16777216) : CWd p 1 (.ref 81) [.ob 147 a d] (Cu H d l k) (.int (pk l k)) (Cu H d l (if k < l.length then k + 1 else k)) := by
  refine CW_0 (params := ["self"]) ["self", "code"] [] [some (.ob 147 a d), none] (fun us h => match us, h with | [u], _ => rfl) ?_
  intro c F hT hL
  walk_at "W"
  refine if_dec (fun h => ?_) (fun h => ?_)
  · have h' : ¬ k < l.length := by omega
    walk_at "W"
    exact ⟨by simp [retV, pk, h'], by simp [h']⟩
  · have h' : k < l.length := by omega
    walk_at "W"
    exact ⟨by simp [retV, pk, h'], by simp [h']⟩
theorem starts_spec (hl : l.length ≤ 16777216) (hk : k ≤ l.length) {w : List UInt8} (hw : w.length ≤ 16777216) : CWd p 1 (.ref 88) [.ob 147 a d, .bytes w] (Cu H d l k) (.bool (isAt l k w)) (Cu H d l k) := by
  refine CW_0 (params := ["self", "word"]) ["self", "word"] ["len"] [some (.ob 147 a d), some (.bytes w)] (fun us h => match us, h with | [u, v], _ => rfl) ?_
  intro c F hT hL
  walk_at "W"
  refine if_dec (fun h => ?_) (fun h => ?_)
  · walk_at "W"
    refine ⟨?_, rfl⟩
    rw [cut_nat l (by omega) (by omega)]
    simp [retV, isAt]
  · refine ⟨?_, rfl⟩
    have h : ¬ (k + w.length ≤ l.length) := by omega
    have : isAt l k w = false := by
      unfold isAt
      apply beq_eq_false_iff_ne.mpr
      intro e
      have := congrArg List.length e
      simp at this
      omega
    simp [retV, this]; omega
theorem skip_spec (hl : l.length ≤ 16777216) (hk : k ≤ l.length) {w : List UInt8} (hw : w.length ≤ 16777216) : CWd p 2 (.ref 95) [.ob 147 a d, .bytes w] (Cu H d l k) (.bool (isAt l k w)) (Cu H d l (if isAt l k w = true then k + w.length else k)) := by
  refine CW_0 (params := ["self", "word"]) ["self", "word"] ["len"] [some (.ob 147 a d), some (.bytes w)] (fun us h => match us, h with | [u, v], _ => rfl) ?_
  intro c F hT hL
  walk_at "W"
  refine F_callE F (starts_spec hl hk hw) (by decide) ?_
  walk_at "W"
  refine if_nb (fun h => ?_) (fun h => ?_)
  · walk_at "W"
    exact ⟨by simp [retV, h], by simp [h]⟩
  · walk_at "W"
    exact ⟨by simp [retV, h], by simp [h]⟩

theorem skip_white_spec (hl : l.length ≤ 16777216) : CWd p 1 (.ref 102) [.ob 147 a d] (Cu H d l k) .none (Cu H d l (ws l k)) := by
  refine CW_0 (params := ["self"]) ["self", "code"] ["WHITE", "COMMENT", "LINE_FEED", "RETURN"] [some (.ob 147 a d), none] (fun us h => match us, h with | [u], _ => rfl) ?_
  intro c F hT hL
  refine K_While F (fun m vals H' => ∃ k', vals = [some (.ob 147 a d), none] ∧ H' = Cu H d l k' ∧ ws l k' = ws l k ∧ m = l.length - k') _ _ (by walk_at "le") ⟨k, rfl, rfl, rfl, rfl⟩ ?_
  rintro m _ _ ⟨k', rfl, rfl, e, rfl⟩
  walk_at "W"
  refine if_dec (fun h => ?_) (fun h => ?_)
  · have h' : k' < l.length := by omega
    walk_at "W"
    refine if_eq (fun h2 => ?_) (fun h2 => ?_)
    · refine K_While F (fun m vals H' => ∃ j, vals = [some (.ob 147 a d), none] ∧ H' = Cu H d l j ∧ cm l j = cm l (k' + 1) ∧ k' ≤ j ∧ m = l.length - j ∧ (j = k' → byt l j = 37)) _ _ (by walk_at "le") ⟨k', rfl, rfl, ?_, Nat.le_refl _, rfl, fun _ => h2⟩ ?_
      · rw [cm]; simp [h', h2]
      rintro m _ _ ⟨j, rfl, rfl, e2, hj, rfl, h37⟩
      walk_at "W"
      refine if_dec (fun h => ?_) (fun h => ?_)
      · have h'' : j < l.length := by omega
        walk_at "W"
        refine if_ndec (fun h3 => ?_) (fun h3 => ?_)
        · walk_at "W"
          refine Turn.nx (F := F) (by walk_at "le") ⟨_, ?_, j + 1, rfl, rfl, ?_, by omega, rfl, by omega⟩
          · omega
          · rw [← e2]; conv => rhs; rw [cm]
            simp at h3
            simp [h'', h3]
        · walk_at "W"
          simp at h3
          have hk : cm l j = j := by rw [cm]; simp [h'', h3]
          have : j ≠ k' := fun q => by have := h37 q; omega
          refine Turn.nx (F := F) (by walk_at "le") ⟨_, ?_, j, rfl, rfl, ?_, rfl⟩
          · omega
          · rw [← e]; conv => rhs; rw [ws]
            simp [h', h2]; rw [← e2, hk]
      · walk_at "W"
        have hk : cm l j = j := by rw [cm]; simp [show ¬ j < l.length by omega]
        refine Turn.nx (F := F) (by walk_at "le") ⟨_, ?_, j, rfl, rfl, ?_, rfl⟩
        · omega
        · rw [← e]; conv => rhs; rw [ws]
          simp [h', h2]; rw [← e2, hk]
    · walk_at "W"
      refine if_dec (fun h3 => ?_) (fun h3 => ?_)
      · walk_at "W"
        refine Turn.nx (F := F) (by walk_at "le") ⟨_, ?_, k' + 1, rfl, rfl, ?_, rfl⟩
        · omega
        · rw [← e]; conv => rhs; rw [ws]
          simp only [h', h2, h3, if_true, if_false]
      · walk_at "W"
        refine ⟨rfl, ?_⟩
        rw [← e, ws]; simp only [h', h2, h3, if_true, if_false]
  · walk_at "W"
    refine ⟨rfl, ?_⟩
    rw [← e, ws]; simp [show ¬ k' < l.length by omega]
theorem take_regular_spec (hl : l.length ≤ 16777216) (hk : k ≤ l.length) : CWd p 2 (.ref 109) [.ob 147 a d] (Cu H d l k) (.bytes ((l.drop k).take (rg l k - k))) (Cu H d l (rg l k)) := by
  refine CW_0 (params := ["self"]) ["self", "first"] ["is_regular"] [some (.ob 147 a d), none] (fun us h => match us, h with | [u], _ => rfl) ?_
  intro c F hT hL
  walk_at "W"
  refine K_While F (fun m vals H' => ∃ k', vals = [some (.ob 147 a d), some (.int (k : Int))] ∧ H' = Cu H d l k' ∧ rg l k' = rg l k ∧ k ≤ k' ∧ k' ≤ l.length ∧ m = l.length - k') _ _ (by walk_at "le") ⟨k, rfl, rfl, rfl, Nat.le_refl _, hk, rfl⟩ ?_
  rintro m _ _ ⟨k', rfl, rfl, e, hkk, hkl, rfl⟩
  walk_at "W"
  refine if_dec (fun h => ?_) (fun h => ?_)
  · have h' : k' < l.length := by omega
    walk_at "W"
    refine F_callE F is_regular_spec (by decide) ?_
    walk_at "W"
    refine if_b (fun h2 => ?_) (fun h2 => ?_)
    · walk_at "W"
      refine Turn.nx (F := F) (by walk_at "le") ⟨_, ?_, k' + 1, rfl, rfl, ?_, by omega, by omega, rfl⟩
      · omega
      · rw [← e]; conv => rhs; rw [rg]
        simp [h', h2]
    · have hk : rg l k' = k' := by rw [rg]; simp [h', h2]
      walk_at "W"
      rw [cut_nat l hkk hkl, ← e, hk]; exact ⟨rfl, rfl⟩
  · have hk : rg l k' = k' := by rw [rg]; simp [show ¬ k' < l.length by omega]
    walk_at "W"
    rw [cut_nat l hkk hkl, ← e, hk]; exact ⟨rfl, rfl⟩
theorem skip_line_end_spec (hl : l.length ≤ 16777216) : CWd p 2 (.ref 116) [.ob 147 a d] (Cu H d l k) (.bool (le1 l k)) (Cu H d l (le2 l k)) := by
  refine CW_0 (params := ["self"]) ["self"] ["RETURN", "LINE_FEED"] [some (.ob 147 a d)] (fun us h => match us, h with | [u], _ => rfl) ?_
  intro c F hT hL
  walk_at "W"
  refine F_callE F (peek0_spec hl) (by decide) ?_
  walk_at "W"
  refine if_eq (fun h => ?_) (fun h => ?_)
  · walk_at "W"
    refine F_callE F (peek0_spec hl) (by decide) ?_
    walk_at "W"
    refine if_eq (fun h2 => ?_) (fun h2 => ?_)
    · walk_at "W"
      simp only [le1, le2, h, h2]; exact ⟨rfl, rfl⟩
    · walk_at "W"
      simp only [le1, le2, h, h2]; exact ⟨rfl, rfl⟩
  · walk_at "W"
    refine F_callE F (peek0_spec hl) (by decide) ?_
    walk_at "W"
    refine if_eq (fun h2 => ?_) (fun h2 => ?_)
    · walk_at "W"
      simp only [le1, le2, h, h2]; exact ⟨rfl, rfl⟩
    · walk_at "W"
      simp only [le1, le2, h, h2]; exact ⟨rfl, rfl⟩
end
end BodyF2
section BodyF3
theorem O_mul10R {p : Pm} {c : Cx} {ρ : LM} {H : HM} {X : XQ} {Q : V → HM → Prop} {a : Int} (h : Q (.int (a * 10)) H) : O2 p c ρ H (binaryOp .Mult) (.int a) (.int 10) Q X := O_mul (IntMulOk.of_right (by decide)) h
theorem O_mul10L {p : Pm} {c : Cx} {ρ : LM} {H : HM} {X : XQ} {Q : V → HM → Prop} {a : Int} (h : Q (.int (10 * a)) H) : O2 p c ρ H (binaryOp .Mult) (.int 10) (.int a) Q X := O_mul (IntMulOk.of_left (by decide)) h
local macro_rules | `(tactic| walk_at "ox") => `(tactic| first | refine O_mul10R ?_ | refine O_mul10L ?_)
def numV (l : List UInt8) (k : Nat) : V := if fg l k = k ∨ fg l k - k > 20 then .none else .int (dv ((l.drop k).take (fg l k - k)) 0)
def numP (l : List UInt8) (k : Nat) : Nat := if fg l k = k ∨ fg l k - k > 20 then k else fg l k
section
variable {p : Pm} {H : HM} {a d : Addr} {l : List UInt8} {k : Nat}
theorem number_spec (hl : l.length ≤ 16777216) (hk : k ≤ l.length) : CWd p 2 (.ref 130) [.ob 147 a d] (Cu H d l k) (numV l k) (Cu H d l (numP l k)) := by
  refine CW_0 (params := ["self"]) ["self", "first", "number"] ["is_figure", "MOST_FIGURES_cursor"] [some (.ob 147 a d), none, none] (fun us h => match us, h with | [u], _ => rfl) ?_
  intro c F hT hL
  walk_at "W"
  refine K_While F (fun m vals H' => ∃ k', vals = [some (.ob 147 a d), some (.int (k : Int)), some (.int (dv ((l.drop k).take (k' - k)) 0))] ∧ H' = Cu H d l k' ∧ fg l k' = fg l k ∧ k ≤ k' ∧ m = l.length - k') _ _ (by walk_at "le") ⟨k, by simp [dv], rfl, rfl, Nat.le_refl _, rfl⟩ ?_
  rintro m _ _ ⟨k', rfl, rfl, e, hkk, rfl⟩
  walk_at "W"
  refine F_callE F (peek0_spec hl) (by decide) ?_
  walk_at "W"
  refine F_callE F is_figure_spec (by decide) ?_
  walk_at "W"
  refine if_b (fun h => ?_) (fun h => ?_)
  · obtain ⟨h1, h2⟩ := fig_pk h
    walk_at "W"
    refine F_callE F (take_spec hl) (by decide) ?_
    walk_at "W"
    rw [h2, if_pos h1]
    refine Turn.nx (F := F) (by walk_at "le") ⟨l.length - (k' + 1), by omega, k' + 1, ?_, rfl, by rw [← e, fg_yes h], by omega, rfl⟩
    rw [dv_one l hkk h1, Int.mul_comm 10]
  · have hf := fg_no h
    walk_at "W"
    refine if_eq (fun h2 => ?_) (fun h2 => ?_)
    · have h3 : fg l k = k := by omega
      walk_at "W"
      exact ⟨by simp [retV, numV, h3], by simp [numP, h3]⟩
    · walk_at "W"
      refine if_dec (fun h3 => ?_) (fun h3 => ?_)
      · have h4 : fg l k = k ∨ fg l k - k > 20 := by omega
        walk_at "W"
        exact ⟨by simp only [retV, numV, h4, if_true], by simp only [numP, h4, if_true]⟩
      · have h4 : ¬ (fg l k = k ∨ fg l k - k > 20) := by omega
        walk_at "W"
        simp only [numV, numP, h4, if_false]
        rw [← e, hf]; exact ⟨rfl, rfl⟩
end
end BodyF3
section BodyF4
theorem XCls.of {p : Pm} {C : Addr} {o : Obj} {cd : ClassData} {nm q : Str} {N : Addr} {bs bm : List Value} {hdct : Bool} {sn : List Str} {sub : List Value} {ab : Bool} {col : Option Bool} {dd : Option Addr} {k0 k1 k2 k3 k5 : Option Value}
    (h : (Mine.hd.heap_39 p.w.params).lookup C = some o) (e : o = excClassObj nm q C N bs bm hdct sn sub ab col dd k0 k1 k2 k3 k5 "Exception.__new__") (e1 : bm.contains (.type "Exception") = true) (e2 : bm.contains (.type "BaseException") = true) (e3 : bm.contains (.type "AttributeError") = false) (e4 : bm.contains (.type "NameError") = false)
    (init : findIn (Mine.hd.heap_39 p.w.params) (.ref C) "__init__" = some (some (.ref 166))) (keep : keepIn (Mine.hd.heap_39 p.w.params) (.ref C) = true) (dict : hasDictIn (Mine.hd.heap_39 p.w.params) C = true)
    (set : findIn (Mine.hd.heap_39 p.w.params) (.ref C) "__setattr__" = some (some (.builtin "object.__setattr__"))) (tw : takerIn (Mine.hd.heap_39 p.w.params) C "what" = some none) (hc : clsIn (Mine.hd.heap_39 p.w.params) C = some cd) (hm : excMro cd.mro = true)
    (get : findIn (Mine.hd.heap_39 p.w.params) (.ref C) "__getattribute__" = some (some (.builtin "BaseException.__getattribute__"))) (ta : takerIn (Mine.hd.heap_39 p.w.params) C "at" = some none) : XCls p C :=
  ⟨by subst e; exact ⟨_, _, _, _, _, _, _, _, _, _, _, _, _, _, _, _, h, e1, e2, e3, e4⟩, init, keep, dict, set, tw, by rw [hc]; exact hm, get, ta⟩
theorem x_Cross (p : Pm) : XCls p 201 := .of (by k_is) rfl rfl rfl rfl rfl (by k_is) (by k_is) (by k_is) (by k_is) (by k_is) (by k_is) rfl (by k_is) (by k_is)
theorem c_Exception (p : Pm) : Built p "Exception" (.type "Exception") := ⟨by k_is, rfl, .type⟩
theorem cls_exc_init (p : Pm) : findCls (Mine.hd.heap_39 p.w.params) (.type "Exception") (.type "type") "__init__" = some (.val (.builtin "Exception.__init__")) := by k_is
section
variable {p : Pm} {H : HM} {e C : Addr} {w : Str} {k : Int}
theorem exc_init3 (XC : XCls p C) (he : H e = none) : CW p 2 (.ref 166) [.con (.ref e), .str w, .int k] (upd H e (.exc C none))
    (fun v H' => v = .none ∧ ∃ d, H d = none ∧ d ≠ e ∧ H' = upd (upd H d (.flds [("what", .str w), ("at", .int k)])) e (.exc C (some d))) NXc := by
  refine CW_D (params := ["self", "what", "at"]) ["self", "what", "at"] ["Exception"] [some (.con (.ref e)), some (.str w), some (.int k)] [] [] (fun _ => .nil) (fun us h => match us, h with | [u, v, x], _ => ⟨_, rfl, rfl⟩) ?_
  intro c F hT hL
  walk_at "W"
  refine B_ F (by walk_at "gm") (c_Exception p).no (c_Exception p).val ?_
  refine G_exc_init F.L (cls_exc_init p) ⟨.builtin, ?_⟩
  walk_at "W"
  refine Os_exc_init XC (upd_same ..) ?_
  walk_at "W"
  refine U_exc_first XC XC.tw (upd_same ..) fun d hd hde => ?_
  rw [upd_ne hde] at hd
  rw [show upd (upd (upd H e (AObj.exc C none)) d (.flds [("what", .str w)])) e (.exc C (some d)) = upd (upd H d (.flds [("what", .str w)])) e (.exc C (some d)) by rw [upd_comm _ _ _ hde.symm, upd_upd]]
  walk_at "W"
  refine U_exc_next XC XC.ta (upd_same ..) (fs := [("what", .str w)]) (by rw [upd_ne hde]; exact upd_same ..) (Nat.le_of_ble_eq_true rfl) ?_
  walk_at "W"
  refine ⟨rfl, d, hd, hde, ?_⟩
  rw [upd_comm _ _ _ hde.symm, upd_upd]; rfl
end
theorem c_range (p : Pm) : Built p "range" (.type "range") := ⟨by k_is, rfl, .type⟩
theorem c_CrossFault (p : Pm) : Callee p "CrossFault" 201 := ⟨by k_is, by k_is⟩
theorem c_take_figures (p : Pm) : Callee p "take_figures" 748 := ⟨by k_is, by k_is⟩
theorem c_take_blank (p : Pm) : Callee p "take_blank" 755 := ⟨by k_is, by k_is⟩
theorem c_take_entry_end (p : Pm) : Callee p "take_entry_end" 762 := ⟨by k_is, by k_is⟩
theorem c_take_entry (p : Pm) : Callee p "take_entry" 769 := ⟨by k_is, by k_is⟩
theorem c_take_count (p : Pm) : Callee p "take_count" 776 := ⟨by k_is, by k_is⟩
theorem g_BLANK (p : Pm) : GInt p "BLANK" 32 := ⟨_, by k_is⟩
theorem g_MOST_GENERATION (p : Pm) : GInt p "MOST_GENERATION" 65535 := ⟨_, by k_is⟩
theorem g_LETTER_N (p : Pm) : GInt p "LETTER_N" 110 := ⟨_, by k_is⟩
theorem g_LETTER_F (p : Pm) : GInt p "LETTER_F" 102 := ⟨_, by k_is⟩
theorem ty_166 (p : Pm) : typeIn (Mine.hd.heap_39 p.w.params) (.ref 166) = some (.type "function") := by k_is
def Rz (X : XQ) (ρ : LM) : V → HM → Prop := fun v H₁ => ∃ e d fs H2, v = .con (.ref e) ∧ H₁ = upd (upd H2 d (.flds fs)) e (.exc 201 (some d)) ∧ d ≠ e ∧ H2 e = none ∧ H2 d = none ∧ X 201 fs ρ H2
theorem K_Cross {p : Pm} {n : Nat} {c : Cx} {ρ : LM} {H : HM} {X : XQ} {Q : AF → LM → HM → Prop} {xs gs : List Str} (F : Fn p n c xs gs) {ex : Expr} {pos : Pos} {rest : List Stmt} (h : EW p c ρ H (eval ex c.env) (Rz X ρ) X) : SW p c ρ H (execs (.Raise (some ex) none pos :: rest) c.env) Q X := K_Raise 201 (x_Cross p) h
theorem Os_cross {p : Pm} {n : Nat} {c : Cx} {ρ : LM} {H : HM} {X : XQ} {xs gs : List Str} (F : Fn p n c xs gs) (hn : 12 ≤ n) {w : Str} {k : Int} (h : X 201 [("what", .str w), ("at", .int k)] ρ H) :
    Os p c ρ H (fun us => call (.ref 201) us) [.str w, .int k] (Rz X ρ) X := by
  refine Os_exc (m := 2) (x_Cross p) (ty_166 p) (Nat.le_of_ble_eq_true rfl) (by have := F.n; omega) F.L (fun e he => (exc_init3 (x_Cross p) he).mono (Nat.le_refl _) (fun v H' => ?_) (fun _ _ _ h => h)) (fun C fs H' h => h.elim)
  rintro ⟨hv, d, hd, hde, rfl⟩
  exact ⟨hv, e, d, _, H, rfl, rfl, hde, he, hd, h⟩
def XF (H : HM) (d : Addr) (l : List UInt8) (k : Nat) : Addr → LM → HM → Prop := fun C fs H' => C = 201 ∧ (∃ w, fs = ([("what", .str w), ("at", .int (k : Int))] : List (Str × V))) ∧ ∃ j, H' = Cu H d l j
end BodyF4
end Group1
section Group2
local macro_rules | `(tactic| walk_at "hv") => `(tactic| first
  | ((show EW _ _ _ _ (eval (Expr.Call (Expr.Name (Str.ofString "CrossFault") _) _ _ _) _) _ _); (refine C_fn (by assumption) (by walk_at "gm") (c_CrossFault _) ?_))
  | ((show EW _ _ _ _ (eval (Expr.Call (Expr.Name (Str.ofString "is_regular") _) _ _ _) _) _ _); (refine C_fn (by assumption) (by walk_at "gm") (c_is_regular _) ?_))
  | ((show EW _ _ _ _ (eval (Expr.Call (Expr.Name (Str.ofString "is_figure") _) _ _ _) _) _ _); (refine C_fn (by assumption) (by walk_at "gm") (c_is_figure _) ?_))
  | ((show EW _ _ _ _ (eval (Expr.Call (Expr.Name (Str.ofString "take_figures") _) _ _ _) _) _ _); (refine C_fn (by assumption) (by walk_at "gm") (c_take_figures _) ?_))
  | ((show EW _ _ _ _ (eval (Expr.Call (Expr.Name (Str.ofString "take_blank") _) _ _ _) _) _ _); (refine C_fn (by assumption) (by walk_at "gm") (c_take_blank _) ?_))
  | ((show EW _ _ _ _ (eval (Expr.Call (Expr.Name (Str.ofString "take_entry_end") _) _ _ _) _) _ _); (refine C_fn (by assumption) (by walk_at "gm") (c_take_entry_end _) ?_))
  | ((show EW _ _ _ _ (eval (Expr.Call (Expr.Name (Str.ofString "take_entry") _) _ _ _) _) _ _); (refine C_fn (by assumption) (by walk_at "gm") (c_take_entry _) ?_))
  | ((show EW _ _ _ _ (eval (Expr.Call (Expr.Name (Str.ofString "take_count") _) _ _ _) _) _ _); (refine C_fn (by assumption) (by walk_at "gm") (c_take_count _) ?_))
  | ((show EW _ _ _ _ (eval (Expr.Call (Expr.Name (Str.ofString "len") _) _ _ _) _) _ _); (refine C_bt (by assumption) (by walk_at "gm") (c_len _) ?_))
  | ((show EW _ _ _ _ (eval (Expr.Call (Expr.Name (Str.ofString "range") _) _ _ _) _) _ _); (refine C_bt (by assumption) (by walk_at "gm") (c_range _) ?_))
  | ((show EW _ _ _ _ (eval (Expr.Name (Str.ofString "LINE_FEED") _) _) _ _); (refine G_int (by assumption) (by walk_at "gm") (g_LINE_FEED _) ?_))
  | ((show EW _ _ _ _ (eval (Expr.Name (Str.ofString "RETURN") _) _) _ _); (refine G_int (by assumption) (by walk_at "gm") (g_RETURN _) ?_))
  | ((show EW _ _ _ _ (eval (Expr.Name (Str.ofString "COMMENT") _) _) _ _); (refine G_int (by assumption) (by walk_at "gm") (g_COMMENT _) ?_))
  | ((show EW _ _ _ _ (eval (Expr.Name (Str.ofString "MOST_FIGURES_cursor") _) _) _ _); (refine G_int (by assumption) (by walk_at "gm") (g_MOST_FIGURES_cursor _) ?_))
  | ((show EW _ _ _ _ (eval (Expr.Name (Str.ofString "BLANK") _) _) _ _); (refine G_int (by assumption) (by walk_at "gm") (g_BLANK _) ?_))
  | ((show EW _ _ _ _ (eval (Expr.Name (Str.ofString "MOST_GENERATION") _) _) _ _); (refine G_int (by assumption) (by walk_at "gm") (g_MOST_GENERATION _) ?_))
  | ((show EW _ _ _ _ (eval (Expr.Name (Str.ofString "LETTER_N") _) _) _ _); (refine G_int (by assumption) (by walk_at "gm") (g_LETTER_N _) ?_))
  | ((show EW _ _ _ _ (eval (Expr.Name (Str.ofString "LETTER_F") _) _) _ _); (refine G_int (by assumption) (by walk_at "gm") (g_LETTER_F _) ?_))
  | ((show EW _ _ _ _ (eval (Expr.Name (Str.ofString "WHITE") _) _) _ _); (refine G_ref (by assumption) (by walk_at "gm") (g_WHITE _) ?_))
  | ((show EW _ _ _ _ (eval (Expr.Name (Str.ofString "DELIMITERS") _) _) _ _); (refine G_ref (by assumption) (by walk_at "gm") (g_DELIMITERS _) ?_))
  | ((show EW _ _ _ _ (eval (Expr.Name (Str.ofString "SIGNS") _) _) _ _); (refine G_ref (by assumption) (by walk_at "gm") (g_SIGNS _) ?_)))
local macro_rules | `(tactic| walk_at "hm") => `(tactic| first
  | ((show O2 _ _ _ _ (binaryOp Operator.Mult) _ _ _ _); first | (refine O_mul10R ?_) | (refine O_mul10L ?_)))
local macro_rules | `(tactic| walk_at "hs") => `(tactic| first
  | ((show SW _ _ _ _ (execs (Stmt.Raise (some (Expr.Call (Expr.Name (Str.ofString "CrossFault") _) _ _ _)) none _ :: _) _) _ _); (refine K_Cross (by assumption) ?_)))
local macro_rules | `(tactic| walk_at "hr") => `(tactic| first
  | (refine Os_range1 ?_)
  | (refine Os_range2 ?_))
section BodyF5
section
variable {p : Pm} {H : HM} {a d : Addr} {l : List UInt8} {k : Nat}
theorem take_figures_spec (hl : l.length ≤ 16777216) (m : Nat) : CW p 13 (.ref 748) [.ob 147 a d, .int (m : Int)] (Cu H d l k)
    (fun v H' => fh l k m = m ∧ v = .int (dv ((l.drop k).take m) 0) ∧ H' = Cu H d l (k + m)) (fun C fs H' => fh l k m < m ∧ XF H d l (k + fh l k m) C fs H') := by
  refine CW_0 (params := ["cursor", "count"]) ["cursor", "count", "total", "turn"] ["range", "is_figure", "CrossFault"] [some (.ob 147 a d), some (.int m), none, none] (fun us h => match us, h with | [u, v], _ => rfl) ?_
  intro c F hT hL
  walk_at "W"
  refine I_rngN (m := m) (by omega) ?_
  refine ⟨fun i vals H' => vals = [some (.ob 147 a d), some (.int m), some (.int (dv ((l.drop k).take i) 0)), none] ∧ H' = Cu H d l (k + i) ∧ fh l k m = i + fh l (k + i) (m - i) ∧ i ≤ m, _, by walk_at "le", ⟨rfl, rfl, by simp, Nat.zero_le _⟩, ?_, ?_⟩
  · rintro i x vals H₁ hx ⟨rfl, rfl, hf, him⟩
    obtain ⟨him', rfl⟩ := rng_get hx
    walk_at "W"
    refine F_callE F (peek0_spec hl) (by decide) ?_
    walk_at "W"
    refine F_callE F is_figure_spec (by decide) ?_
    walk_at "W"
    have e1 : m - i = (m - (i + 1)) + 1 := by omega
    rw [e1, fh] at hf
    refine if_nb (fun h => ?_) (fun h => ?_)
    · have hf' : fh l k m = i := by simpa [h] using hf
      walk_at "W"
      refine Os_cross F (by decide) ?_
      exact ⟨by omega, rfl, ⟨_, by rw [hf']⟩, _, rfl⟩
    · obtain ⟨h1, h2⟩ := fig_pk h
      walk_at "W"
      refine F_callE F (take_spec hl) (by decide) ?_
      walk_at "W"
      rw [h2, if_pos h1]
      refine Turn.nx (F := F) (vals := [_, _, _, none]) (by walk_at "le") ⟨?_, by rw [Nat.add_assoc], ?_, him'⟩
      · have := dv_one l (k := k) (j := k + i) (by omega) h1
        rw [show k + i + 1 - k = i + 1 by omega, show k + i - k = i by omega] at this
        rw [this]
      · rw [h] at hf; simp only [if_true] at hf; rw [hf, show k + i + 1 = k + (i + 1) by omega]; omega
  · rintro vals H₁ ⟨rfl, rfl, hf, him⟩
    rw [rng_len] at hf him ⊢
    simp only [Nat.sub_self, fh] at hf
    walk_at "W"
    exact ⟨hf, rfl, rfl⟩
end
end BodyF5
end Group2
section Group3
local macro_rules | `(tactic| walk_at "hv") => `(tactic| first
  | ((show EW _ _ _ _ (eval (Expr.Call (Expr.Name (Str.ofString "CrossFault") _) _ _ _) _) _ _); (refine C_fn (by assumption) (by walk_at "gm") (c_CrossFault _) ?_))
  | ((show EW _ _ _ _ (eval (Expr.Call (Expr.Name (Str.ofString "is_regular") _) _ _ _) _) _ _); (refine C_fn (by assumption) (by walk_at "gm") (c_is_regular _) ?_))
  | ((show EW _ _ _ _ (eval (Expr.Call (Expr.Name (Str.ofString "is_figure") _) _ _ _) _) _ _); (refine C_fn (by assumption) (by walk_at "gm") (c_is_figure _) ?_))
  | ((show EW _ _ _ _ (eval (Expr.Call (Expr.Name (Str.ofString "take_figures") _) _ _ _) _) _ _); (refine C_fn (by assumption) (by walk_at "gm") (c_take_figures _) ?_))
  | ((show EW _ _ _ _ (eval (Expr.Call (Expr.Name (Str.ofString "take_blank") _) _ _ _) _) _ _); (refine C_fn (by assumption) (by walk_at "gm") (c_take_blank _) ?_))
  | ((show EW _ _ _ _ (eval (Expr.Call (Expr.Name (Str.ofString "take_entry_end") _) _ _ _) _) _ _); (refine C_fn (by assumption) (by walk_at "gm") (c_take_entry_end _) ?_))
  | ((show EW _ _ _ _ (eval (Expr.Call (Expr.Name (Str.ofString "take_entry") _) _ _ _) _) _ _); (refine C_fn (by assumption) (by walk_at "gm") (c_take_entry _) ?_))
  | ((show EW _ _ _ _ (eval (Expr.Call (Expr.Name (Str.ofString "take_count") _) _ _ _) _) _ _); (refine C_fn (by assumption) (by walk_at "gm") (c_take_count _) ?_))
  | ((show EW _ _ _ _ (eval (Expr.Call (Expr.Name (Str.ofString "len") _) _ _ _) _) _ _); (refine C_bt (by assumption) (by walk_at "gm") (c_len _) ?_))
  | ((show EW _ _ _ _ (eval (Expr.Call (Expr.Name (Str.ofString "min") _) _ _ _) _) _ _); (refine C_bt (by assumption) (by walk_at "gm") (c_min _) ?_))
  | ((show EW _ _ _ _ (eval (Expr.Call (Expr.Name (Str.ofString "range") _) _ _ _) _) _ _); (refine C_bt (by assumption) (by walk_at "gm") (c_range _) ?_))
  | ((show EW _ _ _ _ (eval (Expr.Name (Str.ofString "LINE_FEED") _) _) _ _); (refine G_int (by assumption) (by walk_at "gm") (g_LINE_FEED _) ?_))
  | ((show EW _ _ _ _ (eval (Expr.Name (Str.ofString "RETURN") _) _) _ _); (refine G_int (by assumption) (by walk_at "gm") (g_RETURN _) ?_))
  | ((show EW _ _ _ _ (eval (Expr.Name (Str.ofString "COMMENT") _) _) _ _); (refine G_int (by assumption) (by walk_at "gm") (g_COMMENT _) ?_))
  | ((show EW _ _ _ _ (eval (Expr.Name (Str.ofString "MOST_FIGURES_cursor") _) _) _ _); (refine G_int (by assumption) (by walk_at "gm") (g_MOST_FIGURES_cursor _) ?_))
  | ((show EW _ _ _ _ (eval (Expr.Name (Str.ofString "BLANK") _) _) _ _); (refine G_int (by assumption) (by walk_at "gm") (g_BLANK _) ?_))
  | ((show EW _ _ _ _ (eval (Expr.Name (Str.ofString "MOST_GENERATION") _) _) _ _); (refine G_int (by assumption) (by walk_at "gm") (g_MOST_GENERATION _) ?_))
  | ((show EW _ _ _ _ (eval (Expr.Name (Str.ofString "LETTER_N") _) _) _ _); (refine G_int (by assumption) (by walk_at "gm") (g_LETTER_N _) ?_))
  | ((show EW _ _ _ _ (eval (Expr.Name (Str.ofString "LETTER_F") _) _) _ _); (refine G_int (by assumption) (by walk_at "gm") (g_LETTER_F _) ?_))
  | ((show EW _ _ _ _ (eval (Expr.Name (Str.ofString "WHITE") _) _) _ _); (refine G_ref (by assumption) (by walk_at "gm") (g_WHITE _) ?_))
  | ((show EW _ _ _ _ (eval (Expr.Name (Str.ofString "DELIMITERS") _) _) _ _); (refine G_ref (by assumption) (by walk_at "gm") (g_DELIMITERS _) ?_))
  | ((show EW _ _ _ _ (eval (Expr.Name (Str.ofString "SIGNS") _) _) _ _); (refine G_ref (by assumption) (by walk_at "gm") (g_SIGNS _) ?_)))
local macro_rules | `(tactic| walk_at "hm") => `(tactic| first
  | ((show O2 _ _ _ _ (binaryOp Operator.Mult) _ _ _ _); first | (refine O_mul10R ?_) | (refine O_mul10L ?_)))
local macro_rules | `(tactic| walk_at "hs") => `(tactic| first
  | ((show SW _ _ _ _ (execs (Stmt.Raise (some (Expr.Call (Expr.Name (Str.ofString "CrossFault") _) _ _ _)) none _ :: _) _) _ _); (refine K_Cross (by assumption) ?_)))
local macro_rules | `(tactic| walk_at "hr") => `(tactic| first
  | (refine Os_range1 ?_)
  | (refine Os_range2 ?_))
section BodyG2
theorem c_min (p : Pm) : Built p "min" (.builtin "min") := ⟨by k_is, rfl, .builtin⟩
structure Cls (p : Pm) (C fI : Addr) : Prop where
  makes : makesIn (Mine.hd.heap_39 p.w.params) C = true
  init : findIn (Mine.hd.heap_39 p.w.params) (.ref C) "__init__" = some (some (.ref fI))
  fn : typeIn (Mine.hd.heap_39 p.w.params) (.ref fI) = some (.type "function")
section
variable {p : Pm} {n : Nat} {c : Cx} {ρ : LM} {H : HM} {X : XQ} {Q : V → HM → Prop} {Qu : LM → HM → Prop} {xs gs : List Str}
theorem U_self {C a d : Addr} {name : Str} {fs : List (Str × V)} {v : V} (A : StoreOK p C name) (h : Qu ρ (upd H d (.flds (fset name v fs)))) (hlen : Nat.ble fs.length 900 = true := by with_unfolding_all rfl) :
    U2 p c ρ (upd H d (.flds fs)) (fun ov v => setAttr ov name v) (.ob C a d) v Qu X :=
  O_setAttr A (upd_same ..) (Nat.le_of_ble_eq_true hlen) (by rw [upd_upd]; exact h)
theorem Os_new (F : Fn p n c xs gs) {C fI : Addr} (K : Cls p C fI) {m : Nat} {vs : List V} {fs : List (Str × V)} (hm : m + 10 ≤ n)
    (hinit : ∀ a d, CWd p m (.ref fI) (.ob C a d :: vs) (upd H d (.flds [])) .none (upd H d (.flds fs))) (h : Q (.obj C (fs.map (·.1)) (fs.map (·.2))) H) : Os p c ρ H (fun us => call (.ref C) us) vs Q X :=
  Os.lay (Os_make (Xc := NXc) K.makes K.init K.fn (Nat.le_trans hm F.n) F.L (fun a d ha hd => (hinit a d).mono (Nat.le_refl _) (fun v H' ⟨e1, e2⟩ => ⟨e1, C, a, d, fs, H, rfl, e2, hd, h⟩) (fun _ _ _ h => h)) (fun C fs H' h => h.elim))
theorem Os_live (F : Fn p n c xs gs) {C fI : Addr} (K : Cls p C fI) {m : Nat} {vs : List V} {fs : List (Str × V)} (hm : m + 10 ≤ n)
    (hinit : ∀ a d, CWd p m (.ref fI) (.ob C a d :: vs) (upd H d (.flds [])) .none (upd H d (.flds fs))) (h : ∀ a d, H a = none → H d = none → Q (.ob C a d) (upd H d (.flds fs))) : Os p c ρ H (fun us => call (.ref C) us) vs Q X :=
  Os_make (Xc := NXc) K.makes K.init K.fn (Nat.le_trans hm F.n) F.L (fun a d ha hd => (hinit a d).mono (Nat.le_refl _) (fun v H' ⟨e1, e2⟩ => ⟨e1, by subst e2; exact h a d ha hd⟩) (fun _ _ _ h => h)) (fun C fs H' h => h.elim)
theorem A_obj {C : Addr} {name : Str} {ns : List Str} {vs : List V} {v : V} {ex : Bool} (A : AttrOK p C name) (hl : (ns.zip vs).lookup name = some v) (h : Q v H) (hv : ∀ x, v = .con x → handedIn x = true := by intro x h; cases h) : O1 p c ρ H (fun u => getAttr u name ex) (.obj C ns vs) Q X :=
  O_getAttrF A hl hv h
end
theorem cls_Entry (p : Pm) : Cls p 737 727 := by constructor <;> k_is
theorem cls_Name (p : Pm) : Cls p 409 406 := by constructor <;> k_is
theorem cls_Reference (p : Pm) : Cls p 480 470 := by constructor <;> k_is
theorem cls_Frame (p : Pm) : Cls p 539 529 := by constructor <;> k_is
theorem cls_Cursor (p : Pm) : Cls p 147 59 := by constructor <;> k_is
theorem c_Entry (p : Pm) : Callee p "Entry" 737 := ⟨by k_is, by k_is⟩
theorem c_Name (p : Pm) : Callee p "Name" 409 := ⟨by k_is, by k_is⟩
theorem c_Reference (p : Pm) : Callee p "Reference" 480 := ⟨by k_is, by k_is⟩
theorem c_Frame (p : Pm) : Callee p "Frame" 539 := ⟨by k_is, by k_is⟩
theorem c_Cursor (p : Pm) : Callee p "Cursor" 147 := ⟨by k_is, by k_is⟩
theorem s_way (p : Pm) : StoreOK p 737 "way" := by constructor <;> k_is
theorem s_one (p : Pm) : StoreOK p 737 "one" := by constructor <;> k_is
theorem s_two (p : Pm) : StoreOK p 737 "two" := by constructor <;> k_is
theorem s_text (p : Pm) : StoreOK p 409 "text" := by constructor <;> k_is
theorem s_number (p : Pm) : StoreOK p 480 "number" := by constructor <;> k_is
theorem s_generation (p : Pm) : StoreOK p 480 "generation" := by constructor <;> k_is
theorem s_mark (p : Pm) : StoreOK p 539 "mark" := by constructor <;> k_is
theorem s_items (p : Pm) : StoreOK p 539 "items" := by constructor <;> k_is
theorem s_cdata (p : Pm) : StoreOK p 147 "data" := by constructor <;> k_is
theorem s_cend (p : Pm) : StoreOK p 147 "end" := by constructor <;> k_is
theorem a_way (p : Pm) : AttrOK p 737 "way" := ⟨by k_is, by k_is, by k_is⟩
theorem a_one (p : Pm) : AttrOK p 737 "one" := ⟨by k_is, by k_is, by k_is⟩
theorem a_two (p : Pm) : AttrOK p 737 "two" := ⟨by k_is, by k_is, by k_is⟩
theorem a_text (p : Pm) : AttrOK p 409 "text" := ⟨by k_is, by k_is, by k_is⟩
theorem a_number (p : Pm) : AttrOK p 480 "number" := ⟨by k_is, by k_is, by k_is⟩
theorem a_generation (p : Pm) : AttrOK p 480 "generation" := ⟨by k_is, by k_is, by k_is⟩
theorem a_mark (p : Pm) : AttrOK p 539 "mark" := ⟨by k_is, by k_is, by k_is⟩
theorem a_items (p : Pm) : AttrOK p 539 "items" := ⟨by k_is, by k_is, by k_is⟩
theorem b_told (p : Pm) : MethOK p 737 "told" 734 := by constructor <;> k_is
theorem b_wants_key (p : Pm) : MethOK p 539 "wants_key" 536 := by constructor <;> k_is
theorem kp_734 (p : Pm) : keepIn (Mine.hd.heap_39 p.w.params) (.ref 734) = true := by k_is
theorem kp_536 (p : Pm) : keepIn (Mine.hd.heap_39 p.w.params) (.ref 536) = true := by k_is
local macro_rules | `(tactic| walk_at "u2") => `(tactic| first
  | ((show U2 _ _ _ _ (fun ov v => setAttr ov (Str.ofString "way") v) _ _ _ _); refine U_self (s_way _) ?_)
  | ((show U2 _ _ _ _ (fun ov v => setAttr ov (Str.ofString "one") v) _ _ _ _); refine U_self (s_one _) ?_)
  | ((show U2 _ _ _ _ (fun ov v => setAttr ov (Str.ofString "two") v) _ _ _ _); refine U_self (s_two _) ?_)
  | ((show U2 _ _ _ _ (fun ov v => setAttr ov (Str.ofString "text") v) _ _ _ _); refine U_self (s_text _) ?_)
  | ((show U2 _ _ _ _ (fun ov v => setAttr ov (Str.ofString "number") v) _ _ _ _); refine U_self (s_number _) ?_)
  | ((show U2 _ _ _ _ (fun ov v => setAttr ov (Str.ofString "generation") v) _ _ _ _); refine U_self (s_generation _) ?_)
  | ((show U2 _ _ _ _ (fun ov v => setAttr ov (Str.ofString "mark") v) _ _ _ _); refine U_self (s_mark _) ?_)
  | ((show U2 _ _ _ _ (fun ov v => setAttr ov (Str.ofString "data") v) _ _ _ _); refine U_self (s_cdata _) ?_)
  | ((show U2 _ _ _ _ (fun ov v => setAttr ov (Str.ofString "at") v) _ _ _ _); refine U_self (store_C_at _) ?_)
  | ((show U2 _ _ _ _ (fun ov v => setAttr ov (Str.ofString "end") v) _ _ _ _); refine U_self (s_cend _) ?_))
section
variable {p : Pm} {n : Nat} {c : Cx} {ρ : LM} {H : HM} {X : XQ} {Q : V → HM → Prop} {xs gs : List Str}
theorem Entry_init {a d : Addr} {w o t : V} : CWd p 1 (.ref 727) [.ob 737 a d, w, o, t] (upd H d (.flds [])) .none (upd H d (.flds [("way", w), ("one", o), ("two", t)])) := by
  refine CW_0 (params := ["self", "way", "one", "two"]) ["self", "way", "one", "two"] [] [some (.ob 737 a d), some w, some o, some t] (fun us h => match us, h with | [u, v, x, y], _ => rfl) ?_
  intro c F hT hL
  walk_at "W"
  exact ⟨rfl, rfl⟩
theorem Name_init {a d : Addr} {w : V} : CWd p 1 (.ref 406) [.ob 409 a d, w] (upd H d (.flds [])) .none (upd H d (.flds [("text", w)])) := by
  refine CW_0 (params := ["self", "text"]) ["self", "text"] [] [some (.ob 409 a d), some w] (fun us h => match us, h with | [u, v], _ => rfl) ?_
  intro c F hT hL
  walk_at "W"
  exact ⟨rfl, rfl⟩
theorem Reference_init {a d : Addr} {o t : V} : CWd p 1 (.ref 470) [.ob 480 a d, o, t] (upd H d (.flds [])) .none (upd H d (.flds [("number", o), ("generation", t)])) := by
  refine CW_0 (params := ["self", "number", "generation"]) ["self", "number", "generation"] [] [some (.ob 480 a d), some o, some t] (fun us h => match us, h with | [u, v, x], _ => rfl) ?_
  intro c F hT hL
  walk_at "W"
  exact ⟨rfl, rfl⟩
theorem Cursor_init1 {a d : Addr} {l : List UInt8} (hl : l.length ≤ 16777216) : CWd p 1 (.ref 59) [.ob 147 a d, .bytes l] (upd H d (.flds [])) .none (Cu H d l 0) := by
  refine CW_D (params := ["self", "data", "at", "end"]) ["self", "data", "at", "end"] ["len", "min"] [some (.ob 147 a d), some (.bytes l), some (.int 0), some (.int (-1))] [.int 0, .int (-1)] [_, _] (fun Z => RepVs.cons (.int _ _) (RepVs.cons (.int _ _) .nil)) (fun us h => match us, h with | [u, v], _ => ⟨_, rfl, rfl⟩) ?_
  intro c F hT hL
  walk_at "W"
  refine if_dec (fun h => ?_) (fun h => absurd (by decide) h)
  walk_at "W"
  exact ⟨rfl, rfl⟩
theorem Cursor_init3 {a d : Addr} {l : List UInt8} {k : Nat} (hl : l.length ≤ 16777216) : CWd p 1 (.ref 59) [.ob 147 a d, .bytes l, .int (k : Int), .int (l.length : Int)] (upd H d (.flds [])) .none (Cu H d l k) := by
  refine CW_D (params := ["self", "data", "at", "end"]) ["self", "data", "at", "end"] ["len", "min"] [some (.ob 147 a d), some (.bytes l), some (.int k), some (.int l.length)] [] [] (fun Z => .nil) (fun us h => match us, h with | [u, v, x, y], _ => ⟨_, rfl, rfl⟩) ?_
  intro c F hT hL
  walk_at "W"
  refine if_dec (fun h => absurd h (by omega)) (fun h => ?_)
  walk_at "W"
  refine C_bt F (by walk_at "gm") (c_min p) ?_
  walk_at "W"
  refine Os_min2 ?_
  walk_at "W"
  rw [Int.min_self]; exact ⟨rfl, rfl⟩
theorem Os_Entry (F : Fn p n c xs gs) {w o t : V} (hn : 11 ≤ n) (h : Q (.obj 737 ["way", "one", "two"] [w, o, t]) H) : Os p c ρ H (fun us => call (.ref 737) us) [w, o, t] Q X :=
  Os_new F (cls_Entry p) (m := 1) hn (fun a d => Entry_init) h
theorem Os_Name (F : Fn p n c xs gs) {w : V} (hn : 11 ≤ n) (h : Q (.obj 409 ["text"] [w]) H) : Os p c ρ H (fun us => call (.ref 409) us) [w] Q X :=
  Os_new F (cls_Name p) (m := 1) hn (fun a d => Name_init) h
theorem Os_Reference (F : Fn p n c xs gs) {o t : V} (hn : 11 ≤ n) (h : Q (.obj 480 ["number", "generation"] [o, t]) H) : Os p c ρ H (fun us => call (.ref 480) us) [o, t] Q X :=
  Os_new F (cls_Reference p) (m := 1) hn (fun a d => Reference_init) h
theorem Os_Cursor (F : Fn p n c xs gs) {l : List UInt8} (hl : l.length ≤ 16777216) (hn : 11 ≤ n) (h : ∀ a d, H a = none → H d = none → Q (.ob 147 a d) (Cu H d l 0)) : Os p c ρ H (fun us => call (.ref 147) us) [.bytes l] Q X :=
  Os_live F (cls_Cursor p) (m := 1) hn (fun a d => Cursor_init1 hl) h
theorem Os_Cursor3 (F : Fn p n c xs gs) {l : List UInt8} {k : Nat} (hl : l.length ≤ 16777216) (hn : 11 ≤ n) (h : ∀ a d, H a = none → H d = none → Q (.ob 147 a d) (Cu H d l k)) : Os p c ρ H (fun us => call (.ref 147) us) [.bytes l, .int (k : Int), .int (l.length : Int)] Q X :=
  Os_live F (cls_Cursor p) (m := 1) hn (fun a d => Cursor_init3 hl) h
theorem Entry_told {w o t : V} (hw : ∀ x, w = .con x → handedIn x = true) (ho : ∀ x, o = .con x → handedIn x = true) (ht : ∀ x, t = .con x → handedIn x = true) : CWd p 1 (.ref 734) [.obj 737 ["way", "one", "two"] [w, o, t]] H (.tup [w, o, t]) H := by
  refine CW_0 (params := ["self"]) ["self"] [] [some (.obj 737 ["way", "one", "two"] [w, o, t])] (fun us h => match us, h with | [u], _ => rfl) ?_
  intro c F hT hL
  walk_at "W"
  refine A_obj (a_way p) rfl ?_ hw
  walk_at "W"
  refine A_obj (a_one p) rfl ?_ ho
  walk_at "W"
  refine A_obj (a_two p) rfl ?_ ht
  walk_at "W"
  exact ⟨rfl, rfl⟩
end
end BodyG2
end Group3
section BodyN1
theorem c_PaperError (p : Pm) : Callee p "PaperError" 176 := ⟨by k_is, by k_is⟩
theorem c_read_decimal (p : Pm) : Callee p "read_decimal" 315 := ⟨by k_is, by k_is⟩
theorem c_name_text (p : Pm) : Callee p "name_text" 338 := ⟨by k_is, by k_is⟩
theorem c_run_token (p : Pm) : Callee p "run_token" 371 := ⟨by k_is, by k_is⟩
theorem c_delimited_token (p : Pm) : Callee p "delimited_token" 378 := ⟨by k_is, by k_is⟩
theorem c_next_token (p : Pm) : Callee p "next_token" 385 := ⟨by k_is, by k_is⟩
theorem c_is_sign (p : Pm) : Callee p "is_sign" 392 := ⟨by k_is, by k_is⟩
theorem c_kind_of (p : Pm) : Callee p "kind_of" 491 := ⟨by k_is, by k_is⟩
theorem c_told_plain (p : Pm) : Callee p "told_plain" 498 := ⟨by k_is, by k_is⟩
theorem c_told (p : Pm) : Callee p "told" 503 := ⟨by k_is, by k_is⟩
theorem c_parts_of (p : Pm) : Callee p "parts_of" 508 := ⟨by k_is, by k_is⟩
theorem c_depth_of (p : Pm) : Callee p "depth_of" 515 := ⟨by k_is, by k_is⟩
theorem c_is_whole (p : Pm) : Callee p "is_whole" 550 := ⟨by k_is, by k_is⟩
theorem c_take_reference (p : Pm) : Callee p "take_reference" 557 := ⟨by k_is, by k_is⟩
theorem c_plain_value (p : Pm) : Callee p "plain_value" 571 := ⟨by k_is, by k_is⟩
theorem c_dict_of (p : Pm) : Callee p "dict_of" 576 := ⟨by k_is, by k_is⟩
theorem c_close_frame (p : Pm) : Callee p "close_frame" 583 := ⟨by k_is, by k_is⟩
theorem c_object_from (p : Pm) : Callee p "object_from" 591 := ⟨by k_is, by k_is⟩
theorem c_read_object (p : Pm) : Callee p "read_object" 598 := ⟨by k_is, by k_is⟩
theorem c_text_octets (p : Pm) : Callee p "text_octets" 603 := ⟨by k_is, by k_is⟩
theorem c_name_octets (p : Pm) : Callee p "name_octets" 617 := ⟨by k_is, by k_is⟩
theorem c_whole_octets (p : Pm) : Callee p "whole_octets" 624 := ⟨by k_is, by k_is⟩
theorem c_plain_part (p : Pm) : Callee p "plain_part" 664 := ⟨by k_is, by k_is⟩
theorem c_lay_reference (p : Pm) : Callee p "lay_reference" 671 := ⟨by k_is, by k_is⟩
theorem c_lay_dict (p : Pm) : Callee p "lay_dict" 678 := ⟨by k_is, by k_is⟩
theorem c_lay_parts (p : Pm) : Callee p "lay_parts" 685 := ⟨by k_is, by k_is⟩
theorem c_joined_parts (p : Pm) : Callee p "joined_parts" 699 := ⟨by k_is, by k_is⟩
theorem c_write_object (p : Pm) : Callee p "write_object" 713 := ⟨by k_is, by k_is⟩
theorem c_take_subsection (p : Pm) : Callee p "take_subsection" 783 := ⟨by k_is, by k_is⟩
theorem c_take_trailer (p : Pm) : Callee p "take_trailer" 790 := ⟨by k_is, by k_is⟩
theorem c_read_classic (p : Pm) : Callee p "read_classic" 797 := ⟨by k_is, by k_is⟩
theorem c_runs_of (p : Pm) : Callee p "runs_of" 804 := ⟨by k_is, by k_is⟩
theorem c_figures (p : Pm) : Callee p "figures" 811 := ⟨by k_is, by k_is⟩
theorem c_entry_line (p : Pm) : Callee p "entry_line" 818 := ⟨by k_is, by k_is⟩
theorem c_write_classic (p : Pm) : Callee p "write_classic" 825 := ⟨by k_is, by k_is⟩
theorem c_law_pen (p : Pm) : Callee p "_law_pen" 830 := ⟨by k_is, by k_is⟩
theorem c_law_draw (p : Pm) : Callee p "_law_draw" 837 := ⟨by k_is, by k_is⟩
theorem c_law_pick (p : Pm) : Callee p "_law_pick" 844 := ⟨by k_is, by k_is⟩
theorem c_law_table (p : Pm) : Callee p "_law_table" 851 := ⟨by k_is, by k_is⟩
theorem c_law_figures (p : Pm) : Callee p "_law_figures" 858 := ⟨by k_is, by k_is⟩
theorem c_law_octets (p : Pm) : Callee p "_law_octets" 863 := ⟨by k_is, by k_is⟩
theorem c_law_white (p : Pm) : Callee p "_law_white" 870 := ⟨by k_is, by k_is⟩
theorem c_law_run (p : Pm) : Callee p "_law_run" 877 := ⟨by k_is, by k_is⟩
theorem c_law_value (p : Pm) : Callee p "_law_value" 884 := ⟨by k_is, by k_is⟩
theorem c_law_line (p : Pm) : Callee p "_law_line" 891 := ⟨by k_is, by k_is⟩
theorem c_law_read (p : Pm) : Callee p "_law_read" 898 := ⟨by k_is, by k_is⟩
theorem c_law_heard (p : Pm) : Callee p "_law_heard" 903 := ⟨by k_is, by k_is⟩
theorem c_law_bent (p : Pm) : Callee p "_law_bent" 910 := ⟨by k_is, by k_is⟩
theorem c_law_is_refused (p : Pm) : Callee p "_law_is_refused" 917 := ⟨by k_is, by k_is⟩
theorem c_str (p : Pm) : Built p "str" (.type "str") := ⟨by k_is, rfl, .type⟩
theorem c_int (p : Pm) : Built p "int" (.type "int") := ⟨by k_is, rfl, .type⟩
theorem c_abs (p : Pm) : Built p "abs" (.builtin "abs") := ⟨by k_is, rfl, .builtin⟩
theorem c_max (p : Pm) : Built p "max" (.builtin "max") := ⟨by k_is, rfl, .builtin⟩
theorem c_bytes (p : Pm) : Built p "bytes" (.type "bytes") := ⟨by k_is, rfl, .type⟩
theorem c_tuple (p : Pm) : Built p "tuple" (.type "tuple") := ⟨by k_is, rfl, .type⟩
theorem c_list (p : Pm) : Built p "list" (.type "list") := ⟨by k_is, rfl, .type⟩
theorem c_dict (p : Pm) : Built p "dict" (.type "dict") := ⟨by k_is, rfl, .type⟩
theorem c_sorted (p : Pm) : Built p "sorted" (.builtin "sorted") := ⟨by k_is, rfl, .builtin⟩
theorem c_chr (p : Pm) : Built p "chr" (.builtin "chr") := ⟨by k_is, rfl, .builtin⟩
theorem c_ord (p : Pm) : Built p "ord" (.builtin "ord") := ⟨by k_is, rfl, .builtin⟩
theorem c_isinstance (p : Pm) : Built p "isinstance" (.builtin "isinstance") := ⟨by k_is, rfl, .builtin⟩
theorem g_PAREN (p : Pm) : GInt p "PAREN" 40 := ⟨_, by k_is⟩
theorem g_CLOSE_PAREN (p : Pm) : GInt p "CLOSE_PAREN" 41 := ⟨_, by k_is⟩
theorem g_LESS (p : Pm) : GInt p "LESS" 60 := ⟨_, by k_is⟩
theorem g_GREATER (p : Pm) : GInt p "GREATER" 62 := ⟨_, by k_is⟩
theorem g_SLASH (p : Pm) : GInt p "SLASH" 47 := ⟨_, by k_is⟩
theorem g_HASH (p : Pm) : GInt p "HASH" 35 := ⟨_, by k_is⟩
theorem g_MOST_DEPTH (p : Pm) : GInt p "MOST_DEPTH" 40 := ⟨_, by k_is⟩
theorem g_MOST_NESTED (p : Pm) : GInt p "MOST_NESTED" 40 := ⟨_, by k_is⟩
theorem g_MOST_NUMBER (p : Pm) : GInt p "MOST_NUMBER" 40 := ⟨_, by k_is⟩
theorem g_NUMBER_SIGN (p : Pm) : GInt p "NUMBER_SIGN" 35 := ⟨_, by k_is⟩
theorem g_MOST_OFFSET (p : Pm) : GInt p "MOST_OFFSET" 9999999999 := ⟨_, by k_is⟩
theorem g_PLUS (p : Pm) : GInt p "PLUS" 43 := ⟨_, by k_is⟩
theorem g_MINUS (p : Pm) : GInt p "MINUS" 45 := ⟨_, by k_is⟩
theorem g_POINT (p : Pm) : GInt p "POINT" 46 := ⟨_, by k_is⟩
theorem g_ZERO (p : Pm) : GInt p "ZERO" 48 := ⟨_, by k_is⟩
theorem g_MOST_FIGURES_decimals (p : Pm) : GInt p "MOST_FIGURES_decimals" 40 := ⟨_, by k_is⟩
end BodyN1
section Group4
local macro_rules | `(tactic| walk_at "hv") => `(tactic| first
  | ((show EW _ _ _ _ (eval (Expr.Call (Expr.Name (Str.ofString "CrossFault") _) _ _ _) _) _ _); (refine C_fn (by assumption) (by walk_at "gm") (c_CrossFault _) ?_))
  | ((show EW _ _ _ _ (eval (Expr.Call (Expr.Name (Str.ofString "Entry") _) _ _ _) _) _ _); (refine C_fn (by assumption) (by walk_at "gm") (c_Entry _) ?_))
  | ((show EW _ _ _ _ (eval (Expr.Call (Expr.Name (Str.ofString "is_regular") _) _ _ _) _) _ _); (refine C_fn (by assumption) (by walk_at "gm") (c_is_regular _) ?_))
  | ((show EW _ _ _ _ (eval (Expr.Call (Expr.Name (Str.ofString "is_figure") _) _ _ _) _) _ _); (refine C_fn (by assumption) (by walk_at "gm") (c_is_figure _) ?_))
  | ((show EW _ _ _ _ (eval (Expr.Call (Expr.Name (Str.ofString "take_figures") _) _ _ _) _) _ _); (refine C_fn (by assumption) (by walk_at "gm") (c_take_figures _) ?_))
  | ((show EW _ _ _ _ (eval (Expr.Call (Expr.Name (Str.ofString "take_blank") _) _ _ _) _) _ _); (refine C_fn (by assumption) (by walk_at "gm") (c_take_blank _) ?_))
  | ((show EW _ _ _ _ (eval (Expr.Call (Expr.Name (Str.ofString "take_entry_end") _) _ _ _) _) _ _); (refine C_fn (by assumption) (by walk_at "gm") (c_take_entry_end _) ?_))
  | ((show EW _ _ _ _ (eval (Expr.Call (Expr.Name (Str.ofString "take_entry") _) _ _ _) _) _ _); (refine C_fn (by assumption) (by walk_at "gm") (c_take_entry _) ?_))
  | ((show EW _ _ _ _ (eval (Expr.Call (Expr.Name (Str.ofString "take_count") _) _ _ _) _) _ _); (refine C_fn (by assumption) (by walk_at "gm") (c_take_count _) ?_))
  | ((show EW _ _ _ _ (eval (Expr.Call (Expr.Name (Str.ofString "len") _) _ _ _) _) _ _); (refine C_bt (by assumption) (by walk_at "gm") (c_len _) ?_))
  | ((show EW _ _ _ _ (eval (Expr.Call (Expr.Name (Str.ofString "min") _) _ _ _) _) _ _); (refine C_bt (by assumption) (by walk_at "gm") (c_min _) ?_))
  | ((show EW _ _ _ _ (eval (Expr.Call (Expr.Name (Str.ofString "range") _) _ _ _) _) _ _); (refine C_bt (by assumption) (by walk_at "gm") (c_range _) ?_))
  | ((show EW _ _ _ _ (eval (Expr.Name (Str.ofString "LINE_FEED") _) _) _ _); (refine G_int (by assumption) (by walk_at "gm") (g_LINE_FEED _) ?_))
  | ((show EW _ _ _ _ (eval (Expr.Name (Str.ofString "RETURN") _) _) _ _); (refine G_int (by assumption) (by walk_at "gm") (g_RETURN _) ?_))
  | ((show EW _ _ _ _ (eval (Expr.Name (Str.ofString "COMMENT") _) _) _ _); (refine G_int (by assumption) (by walk_at "gm") (g_COMMENT _) ?_))
  | ((show EW _ _ _ _ (eval (Expr.Name (Str.ofString "MOST_FIGURES_cursor") _) _) _ _); (refine G_int (by assumption) (by walk_at "gm") (g_MOST_FIGURES_cursor _) ?_))
  | ((show EW _ _ _ _ (eval (Expr.Name (Str.ofString "BLANK") _) _) _ _); (refine G_int (by assumption) (by walk_at "gm") (g_BLANK _) ?_))
  | ((show EW _ _ _ _ (eval (Expr.Name (Str.ofString "MOST_GENERATION") _) _) _ _); (refine G_int (by assumption) (by walk_at "gm") (g_MOST_GENERATION _) ?_))
  | ((show EW _ _ _ _ (eval (Expr.Name (Str.ofString "LETTER_N") _) _) _ _); (refine G_int (by assumption) (by walk_at "gm") (g_LETTER_N _) ?_))
  | ((show EW _ _ _ _ (eval (Expr.Name (Str.ofString "LETTER_F") _) _) _ _); (refine G_int (by assumption) (by walk_at "gm") (g_LETTER_F _) ?_))
  | ((show EW _ _ _ _ (eval (Expr.Name (Str.ofString "WHITE") _) _) _ _); (refine G_ref (by assumption) (by walk_at "gm") (g_WHITE _) ?_))
  | ((show EW _ _ _ _ (eval (Expr.Name (Str.ofString "DELIMITERS") _) _) _ _); (refine G_ref (by assumption) (by walk_at "gm") (g_DELIMITERS _) ?_))
  | ((show EW _ _ _ _ (eval (Expr.Name (Str.ofString "SIGNS") _) _) _ _); (refine G_ref (by assumption) (by walk_at "gm") (g_SIGNS _) ?_)))
local macro_rules | `(tactic| walk_at "hm") => `(tactic| first
  | ((show O2 _ _ _ _ (binaryOp Operator.Mult) _ _ _ _); first | (refine O_mul10R ?_) | (refine O_mul10L ?_)))
local macro_rules | `(tactic| walk_at "hs") => `(tactic| first
  | ((show SW _ _ _ _ (execs (Stmt.Raise (some (Expr.Call (Expr.Name (Str.ofString "CrossFault") _) _ _ _)) none _ :: _) _) _ _); (refine K_Cross (by assumption) ?_)))
local macro_rules | `(tactic| walk_at "hr") => `(tactic| first
  | (refine Os_range1 ?_)
  | (refine Os_range2 ?_))
section BodyF6
section
variable {p : Pm} {H : HM} {a d : Addr} {l : List UInt8} {k : Nat}
theorem take_blank_spec (hl : l.length ≤ 16777216) : CW p 13 (.ref 755) [.ob 147 a d] (Cu H d l k)
    (fun v H' => pk l k = 32 ∧ v = .none ∧ H' = Cu H d l (k + 1)) (fun C fs H' => pk l k ≠ 32 ∧ XF H d l k C fs H') := by
  refine CW_0 (params := ["cursor"]) ["cursor"] ["BLANK", "CrossFault"] [some (.ob 147 a d)] (fun us h => match us, h with | [u], _ => rfl) ?_
  intro c F hT hL
  walk_at "W"
  refine F_callE F (peek0_spec hl) (by decide) ?_
  walk_at "W"
  refine if_ne (fun h => ?_) (fun h => ?_)
  · walk_at "W"
    refine Os_cross F (by decide) ?_
    exact ⟨h, rfl, ⟨_, rfl⟩, _, rfl⟩
  · walk_at "W"
    refine F_callE F (take_spec hl) (by decide) ?_
    walk_at "W"
    refine ⟨h, rfl, ?_⟩
    rw [if_pos (pk_lt h (by decide))]
theorem take_entry_end_spec (hl : l.length ≤ 16777216) (hk : k ≤ l.length) : CW p 13 (.ref 762) [.ob 147 a d] (Cu H d l k)
    (fun v H' => ∃ j, eoE l k = some j ∧ v = .none ∧ H' = Cu H d l j) (fun C fs H' => eoE l k = none ∧ XF H d l k C fs H') := by
  refine CW_0 (params := ["cursor"]) ["cursor", "end"] ["CrossFault"] [some (.ob 147 a d), none] (fun us h => match us, h with | [u], _ => rfl) ?_
  intro c F hT hL
  walk_at "W"
  refine I_tup ⟨fun i vals H' => vals = [some (.ob 147 a d), none] ∧ H' = Cu H d l k ∧ ∀ j w, j < i → ([[32, 13], [32, 10], [13, 10]] : List (List UInt8))[j]? = some w → isAt l k w = false, _, by walk_at "le", ⟨rfl, rfl, fun j w h => absurd h (Nat.not_lt_zero _)⟩, ?_, ?_⟩
  · rintro i x vals H₁ hx ⟨rfl, rfl, hno⟩
    obtain ⟨w, hw, rfl⟩ : ∃ w : List UInt8, ([[32, 13], [32, 10], [13, 10]] : List (List UInt8))[i]? = some w ∧ x = .bytes w := by
      match i, hx with
      | 0, h => exact ⟨_, rfl, (Option.some.inj h).symm⟩
      | 1, h => exact ⟨_, rfl, (Option.some.inj h).symm⟩
      | 2, h => exact ⟨_, rfl, (Option.some.inj h).symm⟩
    have hwl : w.length = 2 := by
      match i, hw with
      | 0, h => rw [← Option.some.inj h]; rfl
      | 1, h => rw [← Option.some.inj h]; rfl
      | 2, h => rw [← Option.some.inj h]; rfl
    walk_at "W"
    refine F_callE F (skip_spec hl hk (by omega)) (by decide) ?_
    walk_at "W"
    refine if_b (fun h => ?_) (fun h => ?_)
    · walk_at "W"
      refine ⟨k + 2, ?_, rfl, by rw [if_pos h, hwl]⟩
      unfold eoE
      rw [if_pos]
      match i, hw with
      | 0, e => rw [← Option.some.inj e] at h; exact .inl h
      | 1, e => rw [← Option.some.inj e] at h; exact .inr (.inl h)
      | 2, e => rw [← Option.some.inj e] at h; exact .inr (.inr h)
    · walk_at "W"
      refine Turn.nx (F := F) (vals := [_, none]) (by walk_at "le") ⟨rfl, by simp [h], fun j w' hj hw' => ?_⟩
      by_cases q : j = i
      · subst q; rw [hw] at hw'; cases hw'; exact h
      · exact hno j w' (by omega) hw'
  · rintro vals H₁ ⟨rfl, rfl, hno⟩
    have h0 := hno 0 _ (by decide) rfl
    have h1 := hno 1 _ (by decide) rfl
    have h2 := hno 2 _ (by decide) rfl
    walk_at "W"
    refine F_callE F (skip_line_end_spec hl) (by decide) ?_
    walk_at "W"
    refine if_nb (fun h => ?_) (fun h => ?_)
    · walk_at "W"
      refine Os_cross F (by decide) ?_
      have : le2 l k = k := by
        unfold le2; simp [le1] at h; simp [h]
      exact ⟨by simp [eoE, h0, h1, h2, h], rfl, ⟨_, by rw [this]⟩, _, rfl⟩
    · walk_at "W"
      exact ⟨le2 l k, by simp [eoE, h0, h1, h2, h], rfl, rfl⟩
theorem take_count_spec (hl : l.length ≤ 16777216) (hk : k ≤ l.length) : CW p 13 (.ref 776) [.ob 147 a d] (Cu H d l k)
    (fun v H' => ∃ m j, cntR l k = .ok (m, j) ∧ v = .int m ∧ H' = Cu H d l j) (fun C fs H' => cntR l k = .error k ∧ XF H d l k C fs H') := by
  refine CW_0 (params := ["cursor"]) ["cursor", "place", "found"] ["CrossFault"] [some (.ob 147 a d), none, none] (fun us h => match us, h with | [u], _ => rfl) ?_
  intro c F hT hL
  walk_at "W"
  refine F_callE F (number_spec hl hk) (by decide) ?_
  by_cases h : fg l k = k ∨ 20 < fg l k - k
  · rw [show numV l k = .none by unfold numV; rw [if_pos h]]
    walk_at "W"
    refine O_is_none (by intro x h; cases h) ?_
    walk_at "W"
    refine if_t ?_
    walk_at "W"
    refine Os_cross F (by decide) ?_
    exact ⟨by rw [cntR, if_pos h], rfl, ⟨_, rfl⟩, _, rfl⟩
  · rw [show numV l k = .int (dv ((l.drop k).take (fg l k - k)) 0) by unfold numV; rw [if_neg h], show numP l k = fg l k by unfold numP; rw [if_neg h]]
    walk_at "W"
    refine O_is_none (by intro x h; cases h) ?_
    walk_at "W"
    refine if_f ?_
    walk_at "W"
    exact ⟨_, _, by rw [cntR, if_neg h], rfl, rfl⟩
def wayS (u : Bool) : Str := if u = true then "used" else "free"
def entO (e : Ent) : V := .obj 737 ["way", "one", "two"] [.str (wayS e.1), .int e.2.1, .int e.2.2]
theorem take_entry_spec (hl : l.length ≤ 16777216) (hk : k ≤ l.length) : CW p 40 (.ref 769) [.ob 147 a d] (Cu H d l k)
    (fun v H' => ∃ e j, entR l k = .ok (e, j) ∧ v = entO e ∧ H' = Cu H d l j) (fun C fs H' => ∃ j, entR l k = .error j ∧ XF H d l j C fs H') := by
  refine CW_0 (params := ["cursor"]) ["cursor", "one", "place", "two", "letter"] ["take_figures", "take_blank", "MOST_GENERATION", "CrossFault", "LETTER_N", "LETTER_F", "take_entry_end", "Entry"] [some (.ob 147 a d), none, none, none, none] (fun us h => match us, h with | [u], _ => rfl) ?_
  intro c F hT hL
  walk_at "W"
  refine F.call (take_figures_spec hl 10) (by decide) ?_ ?_
  case refine_2 =>
    rintro C fs H' ⟨h1, h2⟩
    exact ⟨_, by rw [entR, if_pos h1], h2⟩
  rintro v H' ⟨f1, rfl, rfl⟩
  have k10 := fh_lt f1 hk
  walk_at "W"
  refine F.call (take_blank_spec hl) (by decide) ?_ ?_
  case refine_2 =>
    rintro C fs H' ⟨h1, h2⟩
    exact ⟨_, by rw [entR, if_neg (by omega), if_pos h1], h2⟩
  rintro v H' ⟨b1, rfl, rfl⟩
  walk_at "W"
  refine F.call (take_figures_spec hl 5) (by decide) ?_ ?_
  case refine_2 =>
    rintro C fs H' ⟨h1, h2⟩
    exact ⟨_, by rw [entR, if_neg (by omega), if_neg (by simpa using b1), if_pos h1], h2⟩
  rintro v H' ⟨f2, rfl, rfl⟩
  have k16 := fh_lt f2 (pk_lt b1 (by decide))
  walk_at "W"
  refine if_dec (fun g1 => ?_) (fun g1 => ?_)
  · walk_at "W"
    refine Os_cross F (by decide) ?_
    exact ⟨k + 11, by rw [entR, if_neg (by omega), if_neg (fun q => q b1), if_neg (by have : fh l (k + 11) 5 = 5 := f2; omega), if_pos g1], rfl, ⟨_, rfl⟩, _, rfl⟩
  walk_at "W"
  refine F.call (take_blank_spec hl) (by decide) ?_ ?_
  case refine_2 =>
    rintro C fs H' ⟨h1, h2⟩
    exact ⟨k + 16, by rw [entR, if_neg (by omega), if_neg (fun q => q b1), if_neg (by have : fh l (k + 11) 5 = 5 := f2; omega), if_neg g1, if_pos h1], h2⟩
  rintro v H' ⟨b2, rfl, rfl⟩
  walk_at "W"
  refine F_callE F (peek0_spec hl) (by decide) ?_
  walk_at "W"
  have f2' : fh l (k + 11) 5 = 5 := f2
  have g1' : ¬ 65535 < dv ((l.drop (k + 11)).take 5) 0 := g1
  have b2' : pk l (k + 16) = 32 := b2
  have b1' : ¬ pk l (k + 10) ≠ 32 := fun q => q b1
  have b2'' : ¬ pk l (k + 16) ≠ 32 := fun q => q b2'
  have k17 : k + 10 + 1 + 5 + 1 ≤ l.length := pk_lt b2 (by decide)
  have pre : entR l k = (if pk l (k + 17) ≠ 110 ∧ pk l (k + 17) ≠ 102 then .error (k + 17)
      else match eoE l (k + 18) with
        | none => .error (k + 18)
        | some j => .ok ((decide (pk l (k + 17) = 110), dv ((l.drop k).take 10) 0, dv ((l.drop (k + 11)).take 5) 0), j)) := by
    rw [entR, if_neg (by omega), if_neg b1', if_neg (by omega), if_neg g1', if_neg b2'']
    try rfl
  refine if_ne (fun g2 => ?_) (fun g2 => ?_)
  · walk_at "W"
    refine if_ne (fun g3 => ?_) (fun g3 => ?_)
    · walk_at "W"
      refine Os_cross F (by decide) ?_
      exact ⟨_, by rw [pre, if_pos ⟨g2, g3⟩], rfl, ⟨_, rfl⟩, _, rfl⟩
    · walk_at "W"
      refine F_callE F (take_spec hl) (by decide) ?_
      rw [if_pos (pk_lt g3 (by decide))]
      have pre2 := pre.trans (if_neg (fun q => q.2 g3))
      walk_at "W"
      refine F.call (take_entry_end_spec hl (pk_lt g3 (by decide))) (by decide) ?_ ?_
      case refine_2 =>
        rintro C fs H' ⟨h1, h2⟩
        exact ⟨_, by rw [pre2, show k + 18 = k + 10 + 1 + 5 + 1 + 1 from rfl, h1], h2⟩
      rintro v H' ⟨j, ej, rfl, rfl⟩
      walk_at "W"
      refine if_eq (fun g4 => absurd g4 g2) (fun g4 => ?_)
      walk_at "W"
      refine Os_Entry F (by decide) ?_
      walk_at "W"
      refine ⟨_, j, by rw [pre2, show k + 18 = k + 10 + 1 + 5 + 1 + 1 from rfl, ej], ?_, rfl⟩
      have : decide (pk l (k + 17) = 110) = false := decide_eq_false g2
      rw [this]; rfl
  · walk_at "W"
    refine F_callE F (take_spec hl) (by decide) ?_
    rw [if_pos (pk_lt g2 (by decide))]
    have pre2 := pre.trans (if_neg (fun q => q.1 g2))
    walk_at "W"
    refine F.call (take_entry_end_spec hl (pk_lt g2 (by decide))) (by decide) ?_ ?_
    case refine_2 =>
      rintro C fs H' ⟨h1, h2⟩
      exact ⟨_, by rw [pre2, show k + 18 = k + 10 + 1 + 5 + 1 + 1 from rfl, h1], h2⟩
    rintro v H' ⟨j, ej, rfl, rfl⟩
    walk_at "W"
    refine if_eq (fun g4 => ?_) (fun g4 => absurd g2 g4)
    walk_at "W"
    refine Os_Entry F (by decide) ?_
    walk_at "W"
    refine ⟨_, j, by rw [pre2, show k + 18 = k + 10 + 1 + 5 + 1 + 1 from rfl, ej], ?_, rfl⟩
    have : decide (pk l (k + 17) = 110) = true := decide_eq_true g2
    rw [this]; rfl
end
end BodyF6
end Group4
section Group5
local macro_rules | `(tactic| walk_at "hv") => `(tactic| first
  | ((show EW _ _ _ _ (eval (Expr.Call (Expr.Name (Str.ofString "CrossFault") _) _ _ _) _) _ _); (refine C_fn (by assumption) (by walk_at "gm") (c_CrossFault _) ?_))
  | ((show EW _ _ _ _ (eval (Expr.Call (Expr.Name (Str.ofString "Cursor") _) _ _ _) _) _ _); (refine C_fn (by assumption) (by walk_at "gm") (c_Cursor _) ?_))
  | ((show EW _ _ _ _ (eval (Expr.Call (Expr.Name (Str.ofString "Entry") _) _ _ _) _) _ _); (refine C_fn (by assumption) (by walk_at "gm") (c_Entry _) ?_))
  | ((show EW _ _ _ _ (eval (Expr.Call (Expr.Name (Str.ofString "is_regular") _) _ _ _) _) _ _); (refine C_fn (by assumption) (by walk_at "gm") (c_is_regular _) ?_))
  | ((show EW _ _ _ _ (eval (Expr.Call (Expr.Name (Str.ofString "is_figure") _) _ _ _) _) _ _); (refine C_fn (by assumption) (by walk_at "gm") (c_is_figure _) ?_))
  | ((show EW _ _ _ _ (eval (Expr.Call (Expr.Name (Str.ofString "take_figures") _) _ _ _) _) _ _); (refine C_fn (by assumption) (by walk_at "gm") (c_take_figures _) ?_))
  | ((show EW _ _ _ _ (eval (Expr.Call (Expr.Name (Str.ofString "take_blank") _) _ _ _) _) _ _); (refine C_fn (by assumption) (by walk_at "gm") (c_take_blank _) ?_))
  | ((show EW _ _ _ _ (eval (Expr.Call (Expr.Name (Str.ofString "take_entry_end") _) _ _ _) _) _ _); (refine C_fn (by assumption) (by walk_at "gm") (c_take_entry_end _) ?_))
  | ((show EW _ _ _ _ (eval (Expr.Call (Expr.Name (Str.ofString "take_entry") _) _ _ _) _) _ _); (refine C_fn (by assumption) (by walk_at "gm") (c_take_entry _) ?_))
  | ((show EW _ _ _ _ (eval (Expr.Call (Expr.Name (Str.ofString "take_count") _) _ _ _) _) _ _); (refine C_fn (by assumption) (by walk_at "gm") (c_take_count _) ?_))
  | ((show EW _ _ _ _ (eval (Expr.Call (Expr.Name (Str.ofString "take_subsection") _) _ _ _) _) _ _); (refine C_fn (by assumption) (by walk_at "gm") (c_take_subsection _) ?_))
  | ((show EW _ _ _ _ (eval (Expr.Call (Expr.Name (Str.ofString "take_trailer") _) _ _ _) _) _ _); (refine C_fn (by assumption) (by walk_at "gm") (c_take_trailer _) ?_))
  | ((show EW _ _ _ _ (eval (Expr.Call (Expr.Name (Str.ofString "len") _) _ _ _) _) _ _); (refine C_bt (by assumption) (by walk_at "gm") (c_len _) ?_))
  | ((show EW _ _ _ _ (eval (Expr.Call (Expr.Name (Str.ofString "str") _) _ _ _) _) _ _); (refine C_bt (by assumption) (by walk_at "gm") (c_str _) ?_))
  | ((show EW _ _ _ _ (eval (Expr.Call (Expr.Name (Str.ofString "min") _) _ _ _) _) _ _); (refine C_bt (by assumption) (by walk_at "gm") (c_min _) ?_))
  | ((show EW _ _ _ _ (eval (Expr.Call (Expr.Name (Str.ofString "range") _) _ _ _) _) _ _); (refine C_bt (by assumption) (by walk_at "gm") (c_range _) ?_))
  | ((show EW _ _ _ _ (eval (Expr.Name (Str.ofString "LINE_FEED") _) _) _ _); (refine G_int (by assumption) (by walk_at "gm") (g_LINE_FEED _) ?_))
  | ((show EW _ _ _ _ (eval (Expr.Name (Str.ofString "RETURN") _) _) _ _); (refine G_int (by assumption) (by walk_at "gm") (g_RETURN _) ?_))
  | ((show EW _ _ _ _ (eval (Expr.Name (Str.ofString "COMMENT") _) _) _ _); (refine G_int (by assumption) (by walk_at "gm") (g_COMMENT _) ?_))
  | ((show EW _ _ _ _ (eval (Expr.Name (Str.ofString "MOST_FIGURES_cursor") _) _) _ _); (refine G_int (by assumption) (by walk_at "gm") (g_MOST_FIGURES_cursor _) ?_))
  | ((show EW _ _ _ _ (eval (Expr.Name (Str.ofString "BLANK") _) _) _ _); (refine G_int (by assumption) (by walk_at "gm") (g_BLANK _) ?_))
  | ((show EW _ _ _ _ (eval (Expr.Name (Str.ofString "MOST_GENERATION") _) _) _ _); (refine G_int (by assumption) (by walk_at "gm") (g_MOST_GENERATION _) ?_))
  | ((show EW _ _ _ _ (eval (Expr.Name (Str.ofString "LETTER_N") _) _) _ _); (refine G_int (by assumption) (by walk_at "gm") (g_LETTER_N _) ?_))
  | ((show EW _ _ _ _ (eval (Expr.Name (Str.ofString "LETTER_F") _) _) _ _); (refine G_int (by assumption) (by walk_at "gm") (g_LETTER_F _) ?_))
  | ((show EW _ _ _ _ (eval (Expr.Name (Str.ofString "WHITE") _) _) _ _); (refine G_ref (by assumption) (by walk_at "gm") (g_WHITE _) ?_))
  | ((show EW _ _ _ _ (eval (Expr.Name (Str.ofString "DELIMITERS") _) _) _ _); (refine G_ref (by assumption) (by walk_at "gm") (g_DELIMITERS _) ?_))
  | ((show EW _ _ _ _ (eval (Expr.Name (Str.ofString "SIGNS") _) _) _ _); (refine G_ref (by assumption) (by walk_at "gm") (g_SIGNS _) ?_)))
local macro_rules | `(tactic| walk_at "hm") => `(tactic| first
  | ((show O2 _ _ _ _ (binaryOp Operator.Mult) _ _ _ _); first | (refine O_mul10R ?_) | (refine O_mul10L ?_)))
local macro_rules | `(tactic| walk_at "hs") => `(tactic| first
  | ((show SW _ _ _ _ (execs (Stmt.Raise (some (Expr.Call (Expr.Name (Str.ofString "CrossFault") _) _ _ _)) none _ :: _) _) _ _); (refine K_Cross (by assumption) ?_)))
local macro_rules | `(tactic| walk_at "hr") => `(tactic| first
  | (refine Os_range1 ?_)
  | (refine Os_range2 ?_))
section BodyF7
def dT (T : Tab) : List (Int × V) := T.map fun x => (x.1, entO x.2)
theorem gva_dT (T : Tab) (n : Int) : (gva (dT T) n).isSome = has T n := by
  induction T with
  | nil => rfl
  | cons x T ih =>
    unfold gva dT Mine.has at ih ⊢
    rw [List.map_cons, List.find?_cons, List.any_cons]
    by_cases h : x.1 = n
    · simp [h]
    · simp only [h, decide_false, Bool.false_or]; exact ih
theorem gst_dT {T : Tab} {n : Int} (e : Ent) (h : has T n = false) : gst (dT T) n (entO e) = dT (T ++ [(n, e)]) := by
  unfold gst
  have : (dT T).any (fun e => decide (e.1 = n)) = false := by
    unfold dT; rw [List.any_map]; exact h
  rw [this, if_neg (by decide), dT, dT, List.map_append]; rfl
theorem figs_nn : ∀ {cs : List UInt8} {acc : Int}, (∀ x ∈ cs, 48 ≤ x.toNat ∧ x.toNat ≤ 57) → 0 ≤ acc → 0 ≤ dv cs acc ∧ dv cs acc < (acc + 1) * 10 ^ cs.length
  | [], acc, _, h => by simp [dv]; omega
  | x :: cs, acc, hc, h => by
    have hx := hc x (.head _)
    have ih := figs_nn (cs := cs) (acc := 10 * acc + (x.toNat : Int) - 48) (fun y hy => hc y (.tail _ hy)) (by omega)
    refine ⟨ih.1, Int.lt_of_lt_of_le ih.2 ?_⟩
    rw [List.length_cons, Int.pow_succ, show (acc + 1) * (10 ^ cs.length * 10) = (10 * (acc + 1)) * 10 ^ cs.length by rw [Int.mul_comm 10 (acc + 1), Int.mul_assoc, Int.mul_comm 10]]
    exact Int.mul_le_mul_of_nonneg_right (by omega) (Int.le_of_lt (Int.pow_pos (by decide)))
theorem fg_figs_mem (l : List UInt8) (k : Nat) : ∀ x ∈ (l.drop k).take (fg l k - k), 48 ≤ x.toNat ∧ x.toNat ≤ 57 := by
  fun_induction fg l k
  · rename_i k h1 h2 ih
    have hd : l.drop k = l[k] :: l.drop (k + 1) := List.drop_eq_getElem_cons h1
    have := fg_ge l (k + 1)
    rw [hd, show fg l (k + 1) - k = (fg l (k + 1) - (k + 1)) + 1 by omega, List.take_succ_cons]
    intro x hx
    rcases List.mem_cons.mp hx with rfl | hx
    · simp only [isFig, byt, decide_eq_true_eq, List.getD_eq_getElem?_getD, List.getElem?_eq_getElem h1, Option.getD_some] at h2
      omega
    · exact ih x hx
  · simp
  · simp
theorem cntR_nn {l : List UInt8} {k j : Nat} {m : Int} (h : cntR l k = .ok (m, j)) : 0 ≤ m ∧ m < 10 ^ 20 := by
  unfold cntR at h
  split at h
  · cases h
  · rename_i hc
    cases h
    have := figs_nn (fg_figs_mem l k) (Int.le_refl 0)
    refine ⟨this.1, Int.lt_of_lt_of_le this.2 ?_⟩
    have hlen : ((l.drop k).take (fg l k - k)).length ≤ 20 := by simp; omega
    rw [Int.zero_add, Int.one_mul]
    have := Nat.pow_le_pow_right (n := 10) (by decide) hlen
    exact_mod_cast this
section
variable {p : Pm} {n : Nat} {c : Cx} {ρ : LM} {H : HM} {X : XQ} {Q : V → HM → Prop}
theorem log2_ok {i : Nat} (h : i < 10 ^ 100) : (i : Int).natAbs.log2 < 1920 := by
  rw [Int.natAbs_natCast]
  by_cases h0 : i = 0
  · subst h0; decide
  · rw [Nat.log2_lt h0]
    exact Nat.lt_of_lt_of_le h (by decide +kernel)
theorem O_addStr {x y : Str} (hz : x.length + y.length ≤ 16777216) (h : Q (.str (x ++ y)) H) : O2 p c ρ H (binaryOp .Add) (.str x) (.str y) Q X := fun Z Fo s u v hn r1 r2 => by
  cases r1; cases r2
  exact PyProof.Rows.add_str (fun t' tk => .mk' hn.st.toks (.str _ _) h) (by rw [sizeLine_eq]; omega)
theorem str_add_len (x y : Str) : (x ++ y).length = x.length + y.length := by
  show (⟨x.cps ++ y.cps⟩ : Str).length = _
  simp [Str.length]
end
def XG (H : HM) (E d : Addr) (l : List UInt8) (k : Nat) : Addr → LM → HM → Prop := fun C fs H' => C = 201 ∧ (∃ w, fs = ([("what", .str w), ("at", .int (k : Int))] : List (Str × V))) ∧ ∃ j es, H' = Cu (upd H E (.dint es)) d l j
theorem XF.toG {H : HM} {E d : Addr} {l : List UInt8} {k : Nat} {es : List (Int × V)} {C : Addr} {fs : LM} {H' : HM} (h : XF (upd H E (.dint es)) d l k C fs H') : XG H E d l k C fs H' := by
  obtain ⟨h1, h2, j, h3⟩ := h
  exact ⟨h1, h2, j, es, h3⟩
section
variable {p : Pm} {H : HM} {a d E : Addr} {l : List UInt8} {k : Nat} {T : Tab}
theorem Cu_E (hEd : E ≠ d) (o : AObj) : (Cu (upd H E o) d l k) E = some o := by unfold Cu; rw [upd_ne hEd, upd_same]
theorem Cu_set (hEd : E ≠ d) (o o' : AObj) : upd (Cu (upd H E o) d l k) E o' = Cu (upd H E o') d l k := by rw [upd_comm _ _ _ hEd.symm, upd_upd]
theorem take_subsection_spec (hl : l.length ≤ 16000000) (hk : k ≤ l.length) (hEd : E ≠ d) (hT : T.length ≤ k) : CW p 60 (.ref 783) [.ob 147 a d, .ref E] (Cu (upd H E (.dint (dT T))) d l k)
    (fun v H' => ∃ T' j, secR id l T k = .ok (T', j) ∧ T'.length ≤ j ∧ v = .none ∧ H' = Cu (upd H E (.dint (dT T'))) d l j) (fun C fs H' => ∃ j, secR id l T k = .error j ∧ XG H E d l j C fs H') := by
  have hl' : l.length ≤ 16777216 := by omega
  refine CW_0 (params := ["cursor", "entries"]) ["cursor", "entries", "first", "count", "number"] ["take_count", "range", "CrossFault", "str", "take_entry"] [some (.ob 147 a d), some (.ref E), none, none, none] (fun us h => match us, h with | [u, v], _ => rfl) ?_
  intro c F hTp hL
  walk_at "W"
  refine F.call (take_count_spec hl' hk) (by decide) ?_ ?_
  case refine_2 =>
    rintro C fs H' ⟨h1, h2⟩
    exact ⟨_, by rw [secR, h1], h2.toG⟩
  rintro v H' ⟨n1, k1, c1, rfl, rfl⟩
  have g1 := cntR_ge c1 hk
  have g1w := ws_ge l k1
  have g1l := ws_le l k1 g1.2
  walk_at "W"
  refine F_callE F (skip_white_spec hl') (by decide) ?_
  walk_at "W"
  refine F.call (take_count_spec hl' g1l) (by decide) ?_ ?_
  case refine_2 =>
    rintro C fs H' ⟨h1, h2⟩
    exact ⟨_, by rw [secR, c1]; simp only [h1], h2.toG⟩
  rintro v H' ⟨n2, k2, c2, rfl, rfl⟩
  have g2 := cntR_ge c2 g1l
  have g2w := ws_ge l k2
  have g2l := ws_le l k2 g2.2
  have e0 : secR id l T k = subR l n2.toNat n1 T (ws l k2) := by rw [secR, c1]; simp only [c2, id]
  have p1 := cntR_nn c1
  have p2 := cntR_nn c2
  walk_at "W"
  refine F_callE F (skip_white_spec hl') (by decide) ?_
  walk_at "W"
  refine I_rngN (m := n2.toNat) (by omega) ?_
  refine ⟨fun i vals H' => ∃ Ti ki, vals = [some (.ob 147 a d), some (.ref E), none, none, none] ∧ H' = Cu (upd H E (.dint (dT Ti))) d l ki ∧ i ≤ n2.toNat ∧ secR id l T k = subR l (n2.toNat - i) (n1 + i) Ti ki ∧ Ti.length ≤ ki ∧ ki ≤ l.length, _, by walk_at "le", ⟨T, _, rfl, rfl, Nat.zero_le _, by rw [e0]; simp, by omega, g2l⟩, ?_, ?_⟩
  · rintro i x vals H₁ hx ⟨Ti, ki, rfl, rfl, hi, e1, hTi, hki⟩
    obtain ⟨him, rfl⟩ := rng_get hx
    rw [show n2.toNat - i = (n2.toNat - (i + 1)) + 1 by omega, subR] at e1
    walk_at "W"
    refine O_in_dint (Cu_E hEd _) ?_
    rw [gva_dT]
    walk_at "W"
    refine if_b (fun h => ?_) (fun h => ?_)
    · rw [if_pos h] at e1
      walk_at "W"
      obtain ⟨N, hN⟩ : ∃ N : Nat, n1 + (i : Int) = (N : Int) := ⟨(n1 + (i : Int)).toNat, by omega⟩
      rw [hN]
      have hN2 : N < 10 ^ 22 := by
        have : (10 : Int) ^ 20 = 100000000000000000000 := by decide
        omega
      refine Os_str_int (log2_ok (by omega)) ?_
      rw [digT_nat]
      have hd := digN_len (k := 22) (by decide) hN2
      refine O_addStr (by rw [tx_len, show (Str.ofString "the number ").length = 11 from rfl]; omega) ?_
      walk_at "W"
      refine O_addStr (by rw [str_add_len, tx_len, show (Str.ofString "the number ").length = 11 from rfl, show (Str.ofString " stands twice").length = 13 from rfl]; omega) ?_
      walk_at "W"
      refine Os_cross F (by decide) ?_
      exact ⟨_, e1, XF.toG ⟨rfl, ⟨_, rfl⟩, _, rfl⟩⟩
    · rw [if_neg (by rw [h]; decide)] at e1
      walk_at "W"
      refine F_callE F is_done_spec (by decide) ?_
      walk_at "W"
      refine if_dec (fun h2 => ?_) (fun h2 => ?_)
      · rw [if_pos h2] at e1
        walk_at "W"
        refine Os_cross F (by decide) ?_
        exact ⟨_, e1, XF.toG ⟨rfl, ⟨_, rfl⟩, _, rfl⟩⟩
      · rw [if_neg h2] at e1
        walk_at "W"
        refine F.call (take_entry_spec hl' hki) (by decide) ?_ ?_
        case refine_2 =>
          rintro C fs H' ⟨j, h1, h2⟩
          exact ⟨_, by rw [e1, h1], h2.toG⟩
        rintro v H' ⟨e, j, h1, rfl, rfl⟩
        have ge := entR_gt h1
        walk_at "W"
        refine U_set_dint (Cu_E hEd _) (by simp [dT]; omega) ?_
        rw [Cu_set hEd, gst_dT e h]
        rw [h1] at e1
        walk_at "W"
        refine Turn.nx (F := F) (vals := [_, _, none, none, none]) (by walk_at "le") ⟨_, j, rfl, rfl, by omega, ?_, by simp; omega, by omega⟩
        rw [e1, Int.add_assoc]; rfl
  · rintro vals H₁ ⟨Ti, ki, rfl, rfl, hi, e1, hTi, hki⟩
    rw [rng_len] at hi e1
    walk_at "W"
    exact ⟨Ti, ki, by rw [e1, Nat.sub_self, subR], hTi, rfl, rfl⟩
end
end BodyF7
end Group5
section Group6
local macro_rules | `(tactic| walk_at "hv") => `(tactic| first
  | ((show EW _ _ _ _ (eval (Expr.Call (Expr.Name (Str.ofString "CrossFault") _) _ _ _) _) _ _); (refine C_fn (by assumption) (by walk_at "gm") (c_CrossFault _) ?_))
  | ((show EW _ _ _ _ (eval (Expr.Call (Expr.Name (Str.ofString "Cursor") _) _ _ _) _) _ _); (refine C_fn (by assumption) (by walk_at "gm") (c_Cursor _) ?_))
  | ((show EW _ _ _ _ (eval (Expr.Call (Expr.Name (Str.ofString "Entry") _) _ _ _) _) _ _); (refine C_fn (by assumption) (by walk_at "gm") (c_Entry _) ?_))
  | ((show EW _ _ _ _ (eval (Expr.Call (Expr.Name (Str.ofString "is_regular") _) _ _ _) _) _ _); (refine C_fn (by assumption) (by walk_at "gm") (c_is_regular _) ?_))
  | ((show EW _ _ _ _ (eval (Expr.Call (Expr.Name (Str.ofString "is_figure") _) _ _ _) _) _ _); (refine C_fn (by assumption) (by walk_at "gm") (c_is_figure _) ?_))
  | ((show EW _ _ _ _ (eval (Expr.Call (Expr.Name (Str.ofString "name_text") _) _ _ _) _) _ _); (refine C_fn (by assumption) (by walk_at "gm") (c_name_text _) ?_))
  | ((show EW _ _ _ _ (eval (Expr.Call (Expr.Name (Str.ofString "read_decimal") _) _ _ _) _) _ _); (refine C_fn (by assumption) (by walk_at "gm") (c_read_decimal _) ?_))
  | ((show EW _ _ _ _ (eval (Expr.Call (Expr.Name (Str.ofString "run_token") _) _ _ _) _) _ _); (refine C_fn (by assumption) (by walk_at "gm") (c_run_token _) ?_))
  | ((show EW _ _ _ _ (eval (Expr.Call (Expr.Name (Str.ofString "delimited_token") _) _ _ _) _) _ _); (refine C_fn (by assumption) (by walk_at "gm") (c_delimited_token _) ?_))
  | ((show EW _ _ _ _ (eval (Expr.Call (Expr.Name (Str.ofString "next_token") _) _ _ _) _) _ _); (refine C_fn (by assumption) (by walk_at "gm") (c_next_token _) ?_))
  | ((show EW _ _ _ _ (eval (Expr.Call (Expr.Name (Str.ofString "is_sign") _) _ _ _) _) _ _); (refine C_fn (by assumption) (by walk_at "gm") (c_is_sign _) ?_))
  | ((show EW _ _ _ _ (eval (Expr.Call (Expr.Name (Str.ofString "len") _) _ _ _) _) _ _); (refine C_bt (by assumption) (by walk_at "gm") (c_len _) ?_))
  | ((show EW _ _ _ _ (eval (Expr.Call (Expr.Name (Str.ofString "str") _) _ _ _) _) _ _); (refine C_bt (by assumption) (by walk_at "gm") (c_str _) ?_))
  | ((show EW _ _ _ _ (eval (Expr.Call (Expr.Name (Str.ofString "min") _) _ _ _) _) _ _); (refine C_bt (by assumption) (by walk_at "gm") (c_min _) ?_))
  | ((show EW _ _ _ _ (eval (Expr.Call (Expr.Name (Str.ofString "range") _) _ _ _) _) _ _); (refine C_bt (by assumption) (by walk_at "gm") (c_range _) ?_))
  | ((show EW _ _ _ _ (eval (Expr.Call (Expr.Name (Str.ofString "chr") _) _ _ _) _) _ _); (refine C_bt (by assumption) (by walk_at "gm") (c_chr _) ?_))
  | ((show EW _ _ _ _ (eval (Expr.Name (Str.ofString "LINE_FEED") _) _) _ _); (refine G_int (by assumption) (by walk_at "gm") (g_LINE_FEED _) ?_))
  | ((show EW _ _ _ _ (eval (Expr.Name (Str.ofString "RETURN") _) _) _ _); (refine G_int (by assumption) (by walk_at "gm") (g_RETURN _) ?_))
  | ((show EW _ _ _ _ (eval (Expr.Name (Str.ofString "COMMENT") _) _) _ _); (refine G_int (by assumption) (by walk_at "gm") (g_COMMENT _) ?_))
  | ((show EW _ _ _ _ (eval (Expr.Name (Str.ofString "MOST_FIGURES_cursor") _) _) _ _); (refine G_int (by assumption) (by walk_at "gm") (g_MOST_FIGURES_cursor _) ?_))
  | ((show EW _ _ _ _ (eval (Expr.Name (Str.ofString "HASH") _) _) _ _); (refine G_int (by assumption) (by walk_at "gm") (g_HASH _) ?_))
  | ((show EW _ _ _ _ (eval (Expr.Name (Str.ofString "PLUS") _) _) _ _); (refine G_int (by assumption) (by walk_at "gm") (g_PLUS _) ?_))
  | ((show EW _ _ _ _ (eval (Expr.Name (Str.ofString "MINUS") _) _) _ _); (refine G_int (by assumption) (by walk_at "gm") (g_MINUS _) ?_))
  | ((show EW _ _ _ _ (eval (Expr.Name (Str.ofString "POINT") _) _) _ _); (refine G_int (by assumption) (by walk_at "gm") (g_POINT _) ?_))
  | ((show EW _ _ _ _ (eval (Expr.Name (Str.ofString "ZERO") _) _) _ _); (refine G_int (by assumption) (by walk_at "gm") (g_ZERO _) ?_))
  | ((show EW _ _ _ _ (eval (Expr.Name (Str.ofString "MOST_FIGURES_decimals") _) _) _ _); (refine G_int (by assumption) (by walk_at "gm") (g_MOST_FIGURES_decimals _) ?_))
  | ((show EW _ _ _ _ (eval (Expr.Name (Str.ofString "SLASH") _) _) _ _); (refine G_int (by assumption) (by walk_at "gm") (g_SLASH _) ?_))
  | ((show EW _ _ _ _ (eval (Expr.Name (Str.ofString "PAREN") _) _) _ _); (refine G_int (by assumption) (by walk_at "gm") (g_PAREN _) ?_))
  | ((show EW _ _ _ _ (eval (Expr.Name (Str.ofString "CLOSE_PAREN") _) _) _ _); (refine G_int (by assumption) (by walk_at "gm") (g_CLOSE_PAREN _) ?_))
  | ((show EW _ _ _ _ (eval (Expr.Name (Str.ofString "LESS") _) _) _ _); (refine G_int (by assumption) (by walk_at "gm") (g_LESS _) ?_))
  | ((show EW _ _ _ _ (eval (Expr.Name (Str.ofString "GREATER") _) _) _ _); (refine G_int (by assumption) (by walk_at "gm") (g_GREATER _) ?_))
  | ((show EW _ _ _ _ (eval (Expr.Name (Str.ofString "WHITE") _) _) _ _); (refine G_ref (by assumption) (by walk_at "gm") (g_WHITE _) ?_))
  | ((show EW _ _ _ _ (eval (Expr.Name (Str.ofString "DELIMITERS") _) _) _ _); (refine G_ref (by assumption) (by walk_at "gm") (g_DELIMITERS _) ?_))
  | ((show EW _ _ _ _ (eval (Expr.Name (Str.ofString "SIGNS") _) _) _ _); (refine G_ref (by assumption) (by walk_at "gm") (g_SIGNS _) ?_)))
local macro_rules | `(tactic| walk_at "hm") => `(tactic| first
  | ((show O2 _ _ _ _ (binaryOp Operator.Mult) _ _ _ _); first | (refine O_mul10R ?_) | (refine O_mul10L ?_)))
local macro_rules | `(tactic| walk_at "hs") => `(tactic| first
  | ((show SW _ _ _ _ (execs (Stmt.Raise (some (Expr.Call (Expr.Name (Str.ofString "CrossFault") _) _ _ _)) none _ :: _) _) _ _); (refine K_Cross (by assumption) ?_)))
local macro_rules | `(tactic| walk_at "hr") => `(tactic| first
  | (refine Os_range1 ?_)
  | (refine Os_range2 ?_))
local macro_rules | `(tactic| walk_at "hi") => `(tactic| first
  | refine if_nt ?_
  | refine if_nf ?_)
section BodyR1
local macro_rules | `(tactic| walk_at "h") => `(tactic| first | exact upd_same .. | assumption | (rw [upd_ne (by first | assumption | (apply Ne.symm; assumption))]; walk_at "h"))
theorem take_snoc {α : Type} [Inhabited α] (w : List α) {i : Nat} (d : α) (h : i < w.length) : w.take (i + 1) = w.take i ++ [w.getD i d] := by
  rw [List.take_add_one, List.getElem?_eq_getElem h, List.getD_eq_getElem?_getD, List.getElem?_eq_getElem h]; rfl
def charsV (w : List UInt8) : List V := w.map fun b => .str (tx [b.toNat])
theorem glue_chars : ∀ (ks : List Nat) (acc : Array Nat), (ks.map fun k => tx [k]).foldl (fun acc p => acc ++ (tx []).cps ++ p.cps) acc = acc ++ ks.toArray
  | [], acc => by simp
  | k :: ks, acc => by
    rw [List.map_cons, List.foldl_cons, glue_chars ks]
    simp [tx]
theorem join_chars (ks : List Nat) : PySem.Txt.join (tx []) (ks.map fun k => tx [k]) = tx ks := by
  show Builtin.Str.glued (tx []) (ks.map fun k => tx [k]) = tx ks
  unfold Builtin.Str.glued
  cases ks with
  | nil => rfl
  | cons k ks =>
    rw [List.map_cons, List.drop_one, List.tail_cons, List.headD_cons, glue_chars]
    show (⟨_⟩ : Str) = ⟨_⟩
    simp [tx]
section
variable {p : Pm} {n : Nat} {c : Cx} {ρ : LM} {H : HM} {X : XQ} {Q : V → HM → Prop} {xs gs : List Str} {a d : Addr}
theorem Os_joinS {ks : List Nat} (ha : H a = some (.list (ks.map fun k => .str (tx [k])))) (hl : ks.length ≤ 1000) (h : Q (.str (tx ks)) H) : Os p c ρ H (fun us => call (.builtin "str.join") us) [.str (tx []), .ref a] Q X := fun Z Fo s us hn r => by
  obtain ⟨u1, us, rfl, r1, r⟩ := r.inv
  obtain ⟨u2, us, rfl, r2, r⟩ := r.inv
  rw [r.inv_nil]
  obtain ⟨us, L⟩ := lat hn.st ha
  cases r1; cases r2
  have rr : RepVs Z ((ks.map fun k => tx [k]).map .str) us := by rw [List.map_map]; exact L.rep
  refine join_listW L.is (by simpa using rr.strsAre) (by decide) ?_ fun t' k => .mk' hn.st.toks (.str _ _) (by rw [join_chars]; exact h)
  have : ((ks.map fun k => tx [k]).map (·.length)).sum = ks.length := by
    clear rr L ha h hl
    induction ks with
    | nil => rfl
    | cons k ks ih => simp [tx_len] at ih ⊢; omega
  rw [this]; simp; omega
theorem name_text_spec {w : List UInt8} {at_ : V} (hw : ∀ b ∈ w, b ≠ 35 ∧ b ≠ 0) (hl : w.length ≤ 1000) : CWd p 1 (.ref 338) [.bytes w, at_] H (.str (tx (w.map (·.toNat)))) H := by
  refine CW.dropped ?_
  refine CW_D (params := ["octets", "at"]) ["octets", "at", "signs", "place", "code", "high", "low"] ["len", "HASH", "hex_worth", "SyntaxFault", "chr"] [some (.bytes w), some at_, none, none, none, none, none] [] [] (fun _ => .nil) (fun us h => match us, h with | [u, v], _ => ⟨_, rfl, rfl⟩) ?_
  intro c F hT hL
  have hw' : w.length ≤ 16777216 := by omega
  walk_at "W"
  intro LS hLS
  walk_at "W"
  refine K_While F (fun m vals H' => ∃ i, vals = [some (.bytes w), some at_, some (.ref LS), some (.int ((i : Nat) : Int)), none, none, none] ∧ H' = upd H LS (.list (charsV (w.take i))) ∧ i ≤ w.length ∧ m = w.length - i) _ _ (by walk_at "le") ⟨0, rfl, rfl, Nat.zero_le _, rfl⟩ ?_
  rintro m _ _ ⟨i, rfl, rfl, hi, rfl⟩
  walk_at "W"
  refine if_dec (fun h => ?_) (fun h => ?_)
  · have h' : i < w.length := by omega
    obtain ⟨b1, b2⟩ := hw (w.getD i 0) (by rw [List.getD_eq_getElem?_getD, List.getElem?_eq_getElem h']; exact List.getElem_mem h')
    have n1 : byt w i ≠ 35 := fun q => b1 (UInt8.toNat_inj.mp (show (w.getD i 0).toNat = 35 by unfold byt at q; omega))
    have n2 : byt w i ≠ 0 := fun q => b2 (UInt8.toNat_inj.mp (show (w.getD i 0).toNat = 0 by unfold byt at q; omega))
    walk_at "W"
    refine if_eq (fun h => absurd h n1) (fun h => ?_)
    walk_at "W"
    refine if_eq (fun h => absurd h n2) (fun h => ?_)
    walk_at "W"
    refine G_append (upd_same ..) ⟨.builtin, ?_⟩
    walk_at "W"
    rw [show byt w i = ((w.getD i 0).toNat : Int) from rfl]
    refine Os_chr (by have := (w.getD i 0).toNat_lt; omega) ?_
    walk_at "W"
    refine Os_append (upd_same ..) (by simp [charsV]; omega) ?_
    rw [upd_upd]
    walk_at "W"
    refine Turn.nx (F := F) (vals := [_, _, _, _, none, none, none]) (by walk_at "le") ⟨_, ?_, i + 1, rfl, ?_, h', rfl⟩
    · omega
    · rw [take_snoc w 0 h', charsV, charsV, List.map_append]; rfl
  · have hi' : i = w.length := by omega
    subst hi'
    walk_at "W"
    refine G_joinS ⟨.builtin, ?_⟩
    walk_at "W"
    refine Os_joinS (ks := w.map (·.toNat)) (by rw [upd_same, charsV, List.take_length, List.map_map]; rfl) (by simpa using hl) ?_
    exact ⟨H, fun b o e => by rw [upd_ne (fun q => by rw [q, hLS] at e; cases e)]; exact e, rfl, rfl⟩
end
end BodyR1
section BodyR2
theorem cut_all (l : List UInt8) : cut l (some 0) none = l := by
  have := clipAt_nat l.length 0
  simp only [cut, Option.elim]
  rw [show clipAt l.length 0 = 0 from by simpa using this]
  simp
section
variable {p : Pm} {n : Nat} {c : Cx} {ρ : LM} {H : HM} {X : XQ} {Q : V → HM → Prop} {xs gs : List Str} {a d : Addr}
theorem read_decimal_nil : CWd p 1 (.ref 315) [.bytes []] H .none H := by
  refine CW_0 (params := ["octets"]) ["octets", "begun", "top", "numerals", "places", "code"] ["len", "PLUS", "MINUS", "POINT", "ZERO", "MOST_FIGURES_decimals", "Decimal"] [some (.bytes []), none, none, none, none, none] (fun us h => match us, h with | [u], _ => rfl) ?_
  intro c F hT hL
  have hw' : ([] : List UInt8).length ≤ 16777216 := by decide
  walk_at "W"
  refine if_dec (fun h => absurd h (by simp)) (fun h => ?_)
  walk_at "W"
  refine I_bytes ⟨fun i vals H' => vals = [some (.bytes []), some (.int 0), some (.int 0), some (.int 0), some (.int (-1)), none] ∧ H' = H, _, by walk_at "le", ⟨rfl, rfl⟩, ?_, ?_⟩
  · rintro i x vals H₁ hx ⟨rfl, rfl⟩
    rw [show cut ([] : List UInt8) (some 0) none = [] from rfl] at hx
    simp at hx
  · rintro vals H₁ ⟨rfl, rfl⟩
    walk_at "W"
    refine if_eq (fun h => ?_) (fun h => absurd rfl h)
    walk_at "W"
    exact ⟨rfl, rfl⟩
theorem read_decimal_figs {w : List UInt8} (hw : Figs w) (h0 : 0 < w.length) (hl : w.length ≤ 40) : CWd p 1 (.ref 315) [.bytes w] H (.int (dv w 0)) H := by
  refine CW_0 (params := ["octets"]) ["octets", "begun", "top", "numerals", "places", "code"] ["len", "PLUS", "MINUS", "POINT", "ZERO", "MOST_FIGURES_decimals", "Decimal"] [some (.bytes w), none, none, none, none, none] (fun us h => match us, h with | [u], _ => rfl) ?_
  intro c F hT hL
  have hw' : w.length ≤ 16777216 := by omega
  have b0 : 48 ≤ byt w 0 ∧ byt w 0 ≤ 57 := by
    have := hw (w.getD 0 0) (by rw [List.getD_eq_getElem?_getD, List.getElem?_eq_getElem h0]; exact List.getElem_mem h0)
    unfold byt; omega
  walk_at "W"
  refine if_dec (fun h => ?_) (fun h => absurd (by omega) h)
  walk_at "W"
  refine O_item_bytes hw' (by decide) (by omega) ?_
  rw [show ((w.getD (Int.toNat 0) 0).toNat : Int) = byt w 0 from rfl]
  walk_at "W"
  refine if_eq (fun h => absurd h (by omega)) (fun h => ?_)
  walk_at "W"
  refine O_item_bytes hw' (by decide) (by omega) ?_
  rw [show ((w.getD (Int.toNat 0) 0).toNat : Int) = byt w 0 from rfl]
  walk_at "W"
  refine if_eq (fun h => absurd h (by omega)) (fun h => ?_)
  walk_at "W"
  rw [cut_all]
  refine I_bytes ⟨fun i vals H' => vals = [some (.bytes w), some (.int 0), some (.int (dv (w.take i) 0)), some (.int ((i : Nat) : Int)), some (.int (-1)), none] ∧ H' = H, _, by walk_at "le", ⟨rfl, rfl⟩, ?_, ?_⟩
  · rintro i x vals H₁ hx ⟨rfl, rfl⟩
    have hi : i < w.length := by have := (List.getElem?_eq_some_iff.mp hx).1; simpa using this
    have hxe : x = .int (byt w i) := by
      rw [List.getElem?_map, List.getElem?_eq_getElem hi] at hx
      unfold byt
      rw [List.getD_eq_getElem?_getD, List.getElem?_eq_getElem hi]
      exact (Option.some.inj hx).symm
    subst hxe
    have bi : 48 ≤ byt w i ∧ byt w i ≤ 57 := by
      have := hw (w.getD i 0) (by rw [List.getD_eq_getElem?_getD, List.getElem?_eq_getElem hi]; exact List.getElem_mem hi)
      unfold byt; omega
    walk_at "W"
    refine if_eq (fun h => absurd h (by omega)) (fun h => ?_)
    walk_at "W"
    refine if_dec (fun h => ?_) (fun h => absurd bi.1 h)
    walk_at "W"
    refine if_dec (fun h => ?_) (fun h => absurd (by omega) h)
    walk_at "W"
    refine if_dec (fun h => absurd h (by decide)) (fun h => ?_)
    walk_at "W"
    refine Turn.nx (F := F) (vals := [_, _, _, _, _, none]) (by walk_at "le") ⟨?_, rfl⟩
    have := dv_one w (k := 0) (j := i) (Nat.zero_le _) hi
    simp only [List.drop_zero, Nat.sub_zero] at this
    rw [this]
  · rintro vals H₁ ⟨rfl, rfl⟩
    rw [List.length_map, List.take_length]
    walk_at "W"
    refine if_eq (fun h => absurd h (by omega)) (fun h => ?_)
    walk_at "W"
    refine if_dec (fun h => absurd h (by omega)) (fun h => ?_)
    walk_at "W"
    refine O_item_bytes hw' (by decide) (by omega) ?_
    rw [show ((w.getD (Int.toNat 0) 0).toNat : Int) = byt w 0 from rfl]
    walk_at "W"
    refine if_eq (fun h => absurd h (by omega)) (fun h => ?_)
    walk_at "W"
    refine if_dec (fun h => ?_) (fun h => absurd (by decide) h)
    walk_at "W"
    exact ⟨rfl, rfl⟩
end
end BodyR2
end Group6
section Group7
local macro_rules | `(tactic| walk_at "hv") => `(tactic| first
  | ((show EW _ _ _ _ (eval (Expr.Call (Expr.Name (Str.ofString "CrossFault") _) _ _ _) _) _ _); (refine C_fn (by assumption) (by walk_at "gm") (c_CrossFault _) ?_))
  | ((show EW _ _ _ _ (eval (Expr.Call (Expr.Name (Str.ofString "Cursor") _) _ _ _) _) _ _); (refine C_fn (by assumption) (by walk_at "gm") (c_Cursor _) ?_))
  | ((show EW _ _ _ _ (eval (Expr.Call (Expr.Name (Str.ofString "Entry") _) _ _ _) _) _ _); (refine C_fn (by assumption) (by walk_at "gm") (c_Entry _) ?_))
  | ((show EW _ _ _ _ (eval (Expr.Call (Expr.Name (Str.ofString "is_regular") _) _ _ _) _) _ _); (refine C_fn (by assumption) (by walk_at "gm") (c_is_regular _) ?_))
  | ((show EW _ _ _ _ (eval (Expr.Call (Expr.Name (Str.ofString "is_figure") _) _ _ _) _) _ _); (refine C_fn (by assumption) (by walk_at "gm") (c_is_figure _) ?_))
  | ((show EW _ _ _ _ (eval (Expr.Call (Expr.Name (Str.ofString "name_text") _) _ _ _) _) _ _); (refine C_fn (by assumption) (by walk_at "gm") (c_name_text _) ?_))
  | ((show EW _ _ _ _ (eval (Expr.Call (Expr.Name (Str.ofString "read_decimal") _) _ _ _) _) _ _); (refine C_fn (by assumption) (by walk_at "gm") (c_read_decimal _) ?_))
  | ((show EW _ _ _ _ (eval (Expr.Call (Expr.Name (Str.ofString "run_token") _) _ _ _) _) _ _); (refine C_fn (by assumption) (by walk_at "gm") (c_run_token _) ?_))
  | ((show EW _ _ _ _ (eval (Expr.Call (Expr.Name (Str.ofString "delimited_token") _) _ _ _) _) _ _); (refine C_fn (by assumption) (by walk_at "gm") (c_delimited_token _) ?_))
  | ((show EW _ _ _ _ (eval (Expr.Call (Expr.Name (Str.ofString "next_token") _) _ _ _) _) _ _); (refine C_fn (by assumption) (by walk_at "gm") (c_next_token _) ?_))
  | ((show EW _ _ _ _ (eval (Expr.Call (Expr.Name (Str.ofString "is_sign") _) _ _ _) _) _ _); (refine C_fn (by assumption) (by walk_at "gm") (c_is_sign _) ?_))
  | ((show EW _ _ _ _ (eval (Expr.Call (Expr.Name (Str.ofString "len") _) _ _ _) _) _ _); (refine C_bt (by assumption) (by walk_at "gm") (c_len _) ?_))
  | ((show EW _ _ _ _ (eval (Expr.Call (Expr.Name (Str.ofString "str") _) _ _ _) _) _ _); (refine C_bt (by assumption) (by walk_at "gm") (c_str _) ?_))
  | ((show EW _ _ _ _ (eval (Expr.Call (Expr.Name (Str.ofString "min") _) _ _ _) _) _ _); (refine C_bt (by assumption) (by walk_at "gm") (c_min _) ?_))
  | ((show EW _ _ _ _ (eval (Expr.Call (Expr.Name (Str.ofString "range") _) _ _ _) _) _ _); (refine C_bt (by assumption) (by walk_at "gm") (c_range _) ?_))
  | ((show EW _ _ _ _ (eval (Expr.Call (Expr.Name (Str.ofString "chr") _) _ _ _) _) _ _); (refine C_bt (by assumption) (by walk_at "gm") (c_chr _) ?_))
  | ((show EW _ _ _ _ (eval (Expr.Call (Expr.Name (Str.ofString "isinstance") _) _ _ _) _) _ _); (refine C_bt (by assumption) (by walk_at "gm") (c_isinstance _) ?_))
  | ((show EW _ _ _ _ (eval (Expr.Name (Str.ofString "LINE_FEED") _) _) _ _); (refine G_int (by assumption) (by walk_at "gm") (g_LINE_FEED _) ?_))
  | ((show EW _ _ _ _ (eval (Expr.Name (Str.ofString "RETURN") _) _) _ _); (refine G_int (by assumption) (by walk_at "gm") (g_RETURN _) ?_))
  | ((show EW _ _ _ _ (eval (Expr.Name (Str.ofString "COMMENT") _) _) _ _); (refine G_int (by assumption) (by walk_at "gm") (g_COMMENT _) ?_))
  | ((show EW _ _ _ _ (eval (Expr.Name (Str.ofString "MOST_FIGURES_cursor") _) _) _ _); (refine G_int (by assumption) (by walk_at "gm") (g_MOST_FIGURES_cursor _) ?_))
  | ((show EW _ _ _ _ (eval (Expr.Name (Str.ofString "HASH") _) _) _ _); (refine G_int (by assumption) (by walk_at "gm") (g_HASH _) ?_))
  | ((show EW _ _ _ _ (eval (Expr.Name (Str.ofString "PLUS") _) _) _ _); (refine G_int (by assumption) (by walk_at "gm") (g_PLUS _) ?_))
  | ((show EW _ _ _ _ (eval (Expr.Name (Str.ofString "MINUS") _) _) _ _); (refine G_int (by assumption) (by walk_at "gm") (g_MINUS _) ?_))
  | ((show EW _ _ _ _ (eval (Expr.Name (Str.ofString "POINT") _) _) _ _); (refine G_int (by assumption) (by walk_at "gm") (g_POINT _) ?_))
  | ((show EW _ _ _ _ (eval (Expr.Name (Str.ofString "ZERO") _) _) _ _); (refine G_int (by assumption) (by walk_at "gm") (g_ZERO _) ?_))
  | ((show EW _ _ _ _ (eval (Expr.Name (Str.ofString "MOST_FIGURES_decimals") _) _) _ _); (refine G_int (by assumption) (by walk_at "gm") (g_MOST_FIGURES_decimals _) ?_))
  | ((show EW _ _ _ _ (eval (Expr.Name (Str.ofString "SLASH") _) _) _ _); (refine G_int (by assumption) (by walk_at "gm") (g_SLASH _) ?_))
  | ((show EW _ _ _ _ (eval (Expr.Name (Str.ofString "PAREN") _) _) _ _); (refine G_int (by assumption) (by walk_at "gm") (g_PAREN _) ?_))
  | ((show EW _ _ _ _ (eval (Expr.Name (Str.ofString "CLOSE_PAREN") _) _) _ _); (refine G_int (by assumption) (by walk_at "gm") (g_CLOSE_PAREN _) ?_))
  | ((show EW _ _ _ _ (eval (Expr.Name (Str.ofString "LESS") _) _) _ _); (refine G_int (by assumption) (by walk_at "gm") (g_LESS _) ?_))
  | ((show EW _ _ _ _ (eval (Expr.Name (Str.ofString "GREATER") _) _) _ _); (refine G_int (by assumption) (by walk_at "gm") (g_GREATER _) ?_))
  | ((show EW _ _ _ _ (eval (Expr.Name (Str.ofString "WHITE") _) _) _ _); (refine G_ref (by assumption) (by walk_at "gm") (g_WHITE _) ?_))
  | ((show EW _ _ _ _ (eval (Expr.Name (Str.ofString "DELIMITERS") _) _) _ _); (refine G_ref (by assumption) (by walk_at "gm") (g_DELIMITERS _) ?_))
  | ((show EW _ _ _ _ (eval (Expr.Name (Str.ofString "SIGNS") _) _) _ _); (refine G_ref (by assumption) (by walk_at "gm") (g_SIGNS _) ?_)))
local macro_rules | `(tactic| walk_at "hm") => `(tactic| first
  | ((show O2 _ _ _ _ (binaryOp Operator.Mult) _ _ _ _); first | (refine O_mul10R ?_) | (refine O_mul10L ?_)))
local macro_rules | `(tactic| walk_at "hs") => `(tactic| first
  | ((show SW _ _ _ _ (execs (Stmt.Raise (some (Expr.Call (Expr.Name (Str.ofString "CrossFault") _) _ _ _)) none _ :: _) _) _ _); (refine K_Cross (by assumption) ?_)))
local macro_rules | `(tactic| walk_at "hr") => `(tactic| first
  | (refine Os_range1 ?_)
  | (refine Os_range2 ?_))
local macro_rules | `(tactic| walk_at "hi") => `(tactic| first
  | refine if_nt ?_
  | refine if_nf ?_)
section BodyR3
section
variable {p : Pm} {n : Nat} {c : Cx} {ρ : LM} {H : HM} {X : XQ} {Q : V → HM → Prop} {xs gs : List Str} {a d : Addr} {l : List UInt8} {k : Nat}
def runB (l : List UInt8) (k : Nat) : List UInt8 := (l.drop k).take (rg l k - k)
theorem run_token_spec (hl : l.length ≤ 16777216) (hk : k ≤ l.length) {at_ : V} (hw : Figs (runB l k)) (h0 : 0 < (runB l k).length) (h4 : (runB l k).length ≤ 40) :
    CWd p 3 (.ref 371) [.ob 147 a d, at_] (Cu H d l k) (.tup [.str "int", .int (dv (runB l k) 0), at_]) (Cu H d l (rg l k)) := by
  refine CW_0 (params := ["cursor", "at"]) ["cursor", "at", "run", "number"] ["read_decimal", "isinstance", "int"] [some (.ob 147 a d), some at_, none, none] (fun us h => match us, h with | [u, v], _ => rfl) ?_
  intro c F hT hL
  walk_at "W"
  refine F_callE F (take_regular_spec hl hk) (by decide) ?_
  walk_at "W"
  refine F_callE F (read_decimal_figs (w := runB l k) hw h0 h4) (by decide) ?_
  walk_at "W"
  refine O_is_none (by intro x h; cases h) ?_
  walk_at "W"
  refine if_f ?_
  walk_at "W"
  refine B_ F (by walk_at "gm") (c_int p).no (c_int p).val ?_
  walk_at "W"
  refine Is_int_int ?_
  walk_at "W"
  exact ⟨rfl, rfl⟩
theorem delim_name (hl : l.length ≤ 16777216) (hk : k < l.length) {at_ : V} (hw : ∀ b ∈ runB l (k + 1), b ≠ 35 ∧ b ≠ 0) (h4 : (runB l (k + 1)).length ≤ 1000) :
    CWd p 3 (.ref 378) [.ob 147 a d, .int 47, at_] (Cu H d l k) (.tup [.str "name", .str (tx ((runB l (k + 1)).map (·.toNat))), at_]) (Cu H d l (rg l (k + 1))) := by
  refine CW_0 (params := ["cursor", "code", "at"]) ["cursor", "code", "at"] ["SLASH", "name_text", "PAREN", "literal", "LESS", "hex_string", "SIGNS", "bytes", "SyntaxFault"] [some (.ob 147 a d), some (.int 47), some at_] (fun us h => match us, h with | [u, v, w], _ => rfl) ?_
  intro c F hT hL
  walk_at "W"
  refine if_eq (fun h => ?_) (fun h => absurd rfl h)
  walk_at "W"
  refine F_callE F (take_spec hl) (by decide) ?_
  rw [if_pos hk]
  walk_at "W"
  refine F_callE F (take_regular_spec hl hk) (by decide) ?_
  walk_at "W"
  refine F_callE F (name_text_spec (w := runB l (k + 1)) hw h4) (by decide) ?_
  walk_at "W"
  exact ⟨rfl, rfl⟩
theorem delim_open (hl : l.length ≤ 16777216) (hk : k ≤ l.length) {at_ : V} (hs : isAt l k [60, 60] = true) :
    CWd p 3 (.ref 378) [.ob 147 a d, .int 60, at_] (Cu H d l k) (.tup [.str "sign", .bytes [60, 60], at_]) (Cu H d l (k + 2)) := by
  refine CW_0 (params := ["cursor", "code", "at"]) ["cursor", "code", "at"] ["SLASH", "name_text", "PAREN", "literal", "LESS", "hex_string", "SIGNS", "bytes", "SyntaxFault"] [some (.ob 147 a d), some (.int 60), some at_] (fun us h => match us, h with | [u, v, w], _ => rfl) ?_
  intro c F hT hL
  walk_at "W"
  refine if_eq (fun h => absurd h (by decide)) (fun h => ?_)
  walk_at "W"
  refine if_eq (fun h => absurd h (by decide)) (fun h => ?_)
  walk_at "W"
  refine F_callE F (skip_spec hl hk (by decide)) (by decide) ?_
  rw [hs]
  walk_at "W"
  exact ⟨rfl, rfl⟩
theorem delim_close (hl : l.length ≤ 16777216) (hk : k ≤ l.length) {at_ : V} (hs : isAt l k [62, 62] = true) (hs' : isAt l k [60, 60] = false) :
    CWd p 3 (.ref 378) [.ob 147 a d, .int 62, at_] (Cu H d l k) (.tup [.str "sign", .bytes [62, 62], at_]) (Cu H d l (k + 2)) := by
  refine CW_0 (params := ["cursor", "code", "at"]) ["cursor", "code", "at"] ["SLASH", "name_text", "PAREN", "literal", "LESS", "hex_string", "SIGNS", "bytes", "SyntaxFault"] [some (.ob 147 a d), some (.int 62), some at_] (fun us h => match us, h with | [u, v, w], _ => rfl) ?_
  intro c F hT hL
  walk_at "W"
  refine if_eq (fun h => absurd h (by decide)) (fun h => ?_)
  walk_at "W"
  refine if_eq (fun h => absurd h (by decide)) (fun h => ?_)
  walk_at "W"
  refine F_callE F (skip_spec hl hk (by decide)) (by decide) ?_
  rw [hs']
  walk_at "W"
  refine F_callE F (skip_spec hl hk (by decide)) (by decide) ?_
  rw [hs]
  walk_at "W"
  exact ⟨rfl, rfl⟩
theorem is_sign_bytes {x z : List UInt8} {y : V} : CWd p 1 (.ref 392) [.tup [.str "sign", .bytes x, y], .bytes z] H (.bool (x == z)) H := by
  refine CW_0 (params := ["token", "sign"]) ["token", "sign"] [] [some (.tup [.str "sign", .bytes x, y]), some (.bytes z)] (fun us h => match us, h with | [u, v], _ => rfl) ?_
  intro c F hT hL
  walk_at "W"
  refine O_item_tup (by decide) (by decide) rfl ?_
  walk_at "W"
  refine if_eq (fun h => ?_) (fun h => absurd rfl h)
  walk_at "W"
  refine O_item_tup (by decide) (by decide) rfl ?_
  walk_at "W"
  exact ⟨rfl, rfl⟩
theorem next_open (hl : l.length ≤ 16777216) (hk : k ≤ l.length) (hs : isAt l (ws l k) [60, 60] = true) (hp : pk l (ws l k) = 60) :
    CWd p 5 (.ref 385) [.ob 147 a d] (Cu H d l k) (.tup [.str "sign", .bytes [60, 60], .int (ws l k : Int)]) (Cu H d l (ws l k + 2)) := by
  refine CW_0 (params := ["cursor"]) ["cursor", "at", "code"] ["SLASH", "PAREN", "CLOSE_PAREN", "LESS", "GREATER", "SIGNS", "delimited_token", "run_token"] [some (.ob 147 a d), none, none] (fun us h => match us, h with | [u], _ => rfl) ?_
  intro c F hT hL
  walk_at "W"
  refine F_callE F (skip_white_spec hl) (by decide) ?_
  walk_at "W"
  refine F_callE F (peek0_spec hl) (by decide) ?_
  rw [hp]
  walk_at "W"
  refine if_eq (fun h => absurd h (by decide)) (fun h => ?_)
  walk_at "W"
  refine if_eq (fun h => absurd h (by decide)) (fun h => ?_)
  walk_at "W"
  refine if_eq (fun h => absurd h (by decide)) (fun h => ?_)
  walk_at "W"
  refine if_eq (fun h => absurd h (by decide)) (fun h => ?_)
  walk_at "W"
  refine if_eq (fun h => ?_) (fun h => absurd rfl h)
  walk_at "W"
  refine F_callE F (delim_open hl (ws_le l k hk) hs) (by decide) ?_
  walk_at "W"
  exact ⟨rfl, rfl⟩
theorem next_close (hl : l.length ≤ 16777216) (hk : k ≤ l.length) (hs : isAt l (ws l k) [62, 62] = true) (hs' : isAt l (ws l k) [60, 60] = false) (hp : pk l (ws l k) = 62) :
    CWd p 5 (.ref 385) [.ob 147 a d] (Cu H d l k) (.tup [.str "sign", .bytes [62, 62], .int (ws l k : Int)]) (Cu H d l (ws l k + 2)) := by
  refine CW_0 (params := ["cursor"]) ["cursor", "at", "code"] ["SLASH", "PAREN", "CLOSE_PAREN", "LESS", "GREATER", "SIGNS", "delimited_token", "run_token"] [some (.ob 147 a d), none, none] (fun us h => match us, h with | [u], _ => rfl) ?_
  intro c F hT hL
  walk_at "W"
  refine F_callE F (skip_white_spec hl) (by decide) ?_
  walk_at "W"
  refine F_callE F (peek0_spec hl) (by decide) ?_
  rw [hp]
  walk_at "W"
  refine if_eq (fun h => absurd h (by decide)) (fun h => ?_)
  walk_at "W"
  refine if_eq (fun h => absurd h (by decide)) (fun h => ?_)
  walk_at "W"
  refine if_eq (fun h => absurd h (by decide)) (fun h => ?_)
  walk_at "W"
  refine if_eq (fun h => absurd h (by decide)) (fun h => ?_)
  walk_at "W"
  refine if_eq (fun h => absurd h (by decide)) (fun h => ?_)
  walk_at "W"
  refine if_eq (fun h => ?_) (fun h => absurd rfl h)
  walk_at "W"
  refine F_callE F (delim_close hl (ws_le l k hk) hs hs') (by decide) ?_
  walk_at "W"
  exact ⟨rfl, rfl⟩
theorem next_name (hl : l.length ≤ 16777216) (hk : k ≤ l.length) (hp : pk l (ws l k) = 47) (hw : ∀ b ∈ runB l (ws l k + 1), b ≠ 35 ∧ b ≠ 0) (h4 : (runB l (ws l k + 1)).length ≤ 1000) :
    CWd p 5 (.ref 385) [.ob 147 a d] (Cu H d l k) (.tup [.str "name", .str (tx ((runB l (ws l k + 1)).map (·.toNat))), .int (ws l k : Int)]) (Cu H d l (rg l (ws l k + 1))) := by
  refine CW_0 (params := ["cursor"]) ["cursor", "at", "code"] ["SLASH", "PAREN", "CLOSE_PAREN", "LESS", "GREATER", "SIGNS", "delimited_token", "run_token"] [some (.ob 147 a d), none, none] (fun us h => match us, h with | [u], _ => rfl) ?_
  intro c F hT hL
  walk_at "W"
  refine F_callE F (skip_white_spec hl) (by decide) ?_
  walk_at "W"
  refine F_callE F (peek0_spec hl) (by decide) ?_
  rw [hp]
  walk_at "W"
  refine if_eq (fun h => absurd h (by decide)) (fun h => ?_)
  walk_at "W"
  refine if_eq (fun h => ?_) (fun h => absurd rfl h)
  walk_at "W"
  refine F_callE F (delim_name hl (pk_lt hp (by decide)) hw h4) (by decide) ?_
  walk_at "W"
  exact ⟨rfl, rfl⟩
theorem next_int (hl : l.length ≤ 16777216) (hk : k ≤ l.length) (hp : 48 ≤ pk l (ws l k) ∧ pk l (ws l k) ≤ 57) (hw : Figs (runB l (ws l k))) (h0 : 0 < (runB l (ws l k)).length) (h4 : (runB l (ws l k)).length ≤ 40) :
    CWd p 5 (.ref 385) [.ob 147 a d] (Cu H d l k) (.tup [.str "int", .int (dv (runB l (ws l k)) 0), .int (ws l k : Int)]) (Cu H d l (rg l (ws l k))) := by
  refine CW_0 (params := ["cursor"]) ["cursor", "at", "code"] ["SLASH", "PAREN", "CLOSE_PAREN", "LESS", "GREATER", "SIGNS", "delimited_token", "run_token"] [some (.ob 147 a d), none, none] (fun us h => match us, h with | [u], _ => rfl) ?_
  intro c F hT hL
  walk_at "W"
  refine F_callE F (skip_white_spec hl) (by decide) ?_
  walk_at "W"
  refine F_callE F (peek0_spec hl) (by decide) ?_
  walk_at "W"
  refine if_eq (fun h => absurd h (by omega)) (fun h => ?_)
  walk_at "W"
  refine if_eq (fun h => absurd h (by omega)) (fun h => ?_)
  walk_at "W"
  refine if_eq (fun h => absurd h (by omega)) (fun h => ?_)
  walk_at "W"
  refine if_eq (fun h => absurd h (by omega)) (fun h => ?_)
  walk_at "W"
  refine if_eq (fun h => absurd h (by omega)) (fun h => ?_)
  walk_at "W"
  refine if_eq (fun h => absurd h (by omega)) (fun h => ?_)
  walk_at "W"
  refine if_dec (fun h => absurd h (by simp; omega)) (fun h => ?_)
  walk_at "W"
  refine F_callE F (run_token_spec hl (ws_le l k hk) hw h0 h4) (by decide) ?_
  walk_at "W"
  exact ⟨rfl, rfl⟩
end
end BodyR3
end Group7
section Group8
local macro_rules | `(tactic| walk_at "hv") => `(tactic| first
  | ((show EW _ _ _ _ (eval (Expr.Call (Expr.Name (Str.ofString "CrossFault") _) _ _ _) _) _ _); (refine C_fn (by assumption) (by walk_at "gm") (c_CrossFault _) ?_))
  | ((show EW _ _ _ _ (eval (Expr.Call (Expr.Name (Str.ofString "Cursor") _) _ _ _) _) _ _); (refine C_fn (by assumption) (by walk_at "gm") (c_Cursor _) ?_))
  | ((show EW _ _ _ _ (eval (Expr.Call (Expr.Name (Str.ofString "Entry") _) _ _ _) _) _ _); (refine C_fn (by assumption) (by walk_at "gm") (c_Entry _) ?_))
  | ((show EW _ _ _ _ (eval (Expr.Call (Expr.Name (Str.ofString "Name") _) _ _ _) _) _ _); (refine C_fn (by assumption) (by walk_at "gm") (c_Name _) ?_))
  | ((show EW _ _ _ _ (eval (Expr.Call (Expr.Name (Str.ofString "Reference") _) _ _ _) _) _ _); (refine C_fn (by assumption) (by walk_at "gm") (c_Reference _) ?_))
  | ((show EW _ _ _ _ (eval (Expr.Call (Expr.Name (Str.ofString "is_regular") _) _ _ _) _) _ _); (refine C_fn (by assumption) (by walk_at "gm") (c_is_regular _) ?_))
  | ((show EW _ _ _ _ (eval (Expr.Call (Expr.Name (Str.ofString "is_figure") _) _ _ _) _) _ _); (refine C_fn (by assumption) (by walk_at "gm") (c_is_figure _) ?_))
  | ((show EW _ _ _ _ (eval (Expr.Call (Expr.Name (Str.ofString "name_text") _) _ _ _) _) _ _); (refine C_fn (by assumption) (by walk_at "gm") (c_name_text _) ?_))
  | ((show EW _ _ _ _ (eval (Expr.Call (Expr.Name (Str.ofString "read_decimal") _) _ _ _) _) _ _); (refine C_fn (by assumption) (by walk_at "gm") (c_read_decimal _) ?_))
  | ((show EW _ _ _ _ (eval (Expr.Call (Expr.Name (Str.ofString "run_token") _) _ _ _) _) _ _); (refine C_fn (by assumption) (by walk_at "gm") (c_run_token _) ?_))
  | ((show EW _ _ _ _ (eval (Expr.Call (Expr.Name (Str.ofString "delimited_token") _) _ _ _) _) _ _); (refine C_fn (by assumption) (by walk_at "gm") (c_delimited_token _) ?_))
  | ((show EW _ _ _ _ (eval (Expr.Call (Expr.Name (Str.ofString "next_token") _) _ _ _) _) _ _); (refine C_fn (by assumption) (by walk_at "gm") (c_next_token _) ?_))
  | ((show EW _ _ _ _ (eval (Expr.Call (Expr.Name (Str.ofString "is_sign") _) _ _ _) _) _ _); (refine C_fn (by assumption) (by walk_at "gm") (c_is_sign _) ?_))
  | ((show EW _ _ _ _ (eval (Expr.Call (Expr.Name (Str.ofString "is_whole") _) _ _ _) _) _ _); (refine C_fn (by assumption) (by walk_at "gm") (c_is_whole _) ?_))
  | ((show EW _ _ _ _ (eval (Expr.Call (Expr.Name (Str.ofString "take_reference") _) _ _ _) _) _ _); (refine C_fn (by assumption) (by walk_at "gm") (c_take_reference _) ?_))
  | ((show EW _ _ _ _ (eval (Expr.Call (Expr.Name (Str.ofString "len") _) _ _ _) _) _ _); (refine C_bt (by assumption) (by walk_at "gm") (c_len _) ?_))
  | ((show EW _ _ _ _ (eval (Expr.Call (Expr.Name (Str.ofString "str") _) _ _ _) _) _ _); (refine C_bt (by assumption) (by walk_at "gm") (c_str _) ?_))
  | ((show EW _ _ _ _ (eval (Expr.Call (Expr.Name (Str.ofString "min") _) _ _ _) _) _ _); (refine C_bt (by assumption) (by walk_at "gm") (c_min _) ?_))
  | ((show EW _ _ _ _ (eval (Expr.Call (Expr.Name (Str.ofString "range") _) _ _ _) _) _ _); (refine C_bt (by assumption) (by walk_at "gm") (c_range _) ?_))
  | ((show EW _ _ _ _ (eval (Expr.Call (Expr.Name (Str.ofString "chr") _) _ _ _) _) _ _); (refine C_bt (by assumption) (by walk_at "gm") (c_chr _) ?_))
  | ((show EW _ _ _ _ (eval (Expr.Call (Expr.Name (Str.ofString "isinstance") _) _ _ _) _) _ _); (refine C_bt (by assumption) (by walk_at "gm") (c_isinstance _) ?_))
  | ((show EW _ _ _ _ (eval (Expr.Name (Str.ofString "LINE_FEED") _) _) _ _); (refine G_int (by assumption) (by walk_at "gm") (g_LINE_FEED _) ?_))
  | ((show EW _ _ _ _ (eval (Expr.Name (Str.ofString "RETURN") _) _) _ _); (refine G_int (by assumption) (by walk_at "gm") (g_RETURN _) ?_))
  | ((show EW _ _ _ _ (eval (Expr.Name (Str.ofString "COMMENT") _) _) _ _); (refine G_int (by assumption) (by walk_at "gm") (g_COMMENT _) ?_))
  | ((show EW _ _ _ _ (eval (Expr.Name (Str.ofString "MOST_FIGURES_cursor") _) _) _ _); (refine G_int (by assumption) (by walk_at "gm") (g_MOST_FIGURES_cursor _) ?_))
  | ((show EW _ _ _ _ (eval (Expr.Name (Str.ofString "HASH") _) _) _ _); (refine G_int (by assumption) (by walk_at "gm") (g_HASH _) ?_))
  | ((show EW _ _ _ _ (eval (Expr.Name (Str.ofString "PLUS") _) _) _ _); (refine G_int (by assumption) (by walk_at "gm") (g_PLUS _) ?_))
  | ((show EW _ _ _ _ (eval (Expr.Name (Str.ofString "MINUS") _) _) _ _); (refine G_int (by assumption) (by walk_at "gm") (g_MINUS _) ?_))
  | ((show EW _ _ _ _ (eval (Expr.Name (Str.ofString "POINT") _) _) _ _); (refine G_int (by assumption) (by walk_at "gm") (g_POINT _) ?_))
  | ((show EW _ _ _ _ (eval (Expr.Name (Str.ofString "ZERO") _) _) _ _); (refine G_int (by assumption) (by walk_at "gm") (g_ZERO _) ?_))
  | ((show EW _ _ _ _ (eval (Expr.Name (Str.ofString "MOST_FIGURES_decimals") _) _) _ _); (refine G_int (by assumption) (by walk_at "gm") (g_MOST_FIGURES_decimals _) ?_))
  | ((show EW _ _ _ _ (eval (Expr.Name (Str.ofString "SLASH") _) _) _ _); (refine G_int (by assumption) (by walk_at "gm") (g_SLASH _) ?_))
  | ((show EW _ _ _ _ (eval (Expr.Name (Str.ofString "PAREN") _) _) _ _); (refine G_int (by assumption) (by walk_at "gm") (g_PAREN _) ?_))
  | ((show EW _ _ _ _ (eval (Expr.Name (Str.ofString "CLOSE_PAREN") _) _) _ _); (refine G_int (by assumption) (by walk_at "gm") (g_CLOSE_PAREN _) ?_))
  | ((show EW _ _ _ _ (eval (Expr.Name (Str.ofString "LESS") _) _) _ _); (refine G_int (by assumption) (by walk_at "gm") (g_LESS _) ?_))
  | ((show EW _ _ _ _ (eval (Expr.Name (Str.ofString "GREATER") _) _) _ _); (refine G_int (by assumption) (by walk_at "gm") (g_GREATER _) ?_))
  | ((show EW _ _ _ _ (eval (Expr.Name (Str.ofString "WHITE") _) _) _ _); (refine G_ref (by assumption) (by walk_at "gm") (g_WHITE _) ?_))
  | ((show EW _ _ _ _ (eval (Expr.Name (Str.ofString "DELIMITERS") _) _) _ _); (refine G_ref (by assumption) (by walk_at "gm") (g_DELIMITERS _) ?_))
  | ((show EW _ _ _ _ (eval (Expr.Name (Str.ofString "SIGNS") _) _) _ _); (refine G_ref (by assumption) (by walk_at "gm") (g_SIGNS _) ?_)))
local macro_rules | `(tactic| walk_at "hm") => `(tactic| first
  | ((show O2 _ _ _ _ (binaryOp Operator.Mult) _ _ _ _); first | (refine O_mul10R ?_) | (refine O_mul10L ?_)))
local macro_rules | `(tactic| walk_at "hs") => `(tactic| first
  | ((show SW _ _ _ _ (execs (Stmt.Raise (some (Expr.Call (Expr.Name (Str.ofString "CrossFault") _) _ _ _)) none _ :: _) _) _ _); (refine K_Cross (by assumption) ?_)))
local macro_rules | `(tactic| walk_at "hr") => `(tactic| first
  | (refine Os_range1 ?_)
  | (refine Os_range2 ?_))
local macro_rules | `(tactic| walk_at "hi") => `(tactic| first
  | refine if_nt ?_
  | refine if_nf ?_)
section BodyR4
section
variable {p : Pm} {n : Nat} {c : Cx} {ρ : LM} {H : HM} {X : XQ} {Q : V → HM → Prop} {xs gs : List Str} {a d : Addr} {l : List UInt8} {k : Nat}
theorem is_whole_none : CWd p 1 (.ref 550) [.none] H (.bool false) H := by
  refine CW_0 (params := ["value"]) ["value"] ["isinstance", "int", "bool"] [some .none] (fun us h => match us, h with | [u], _ => rfl) ?_
  intro c F hT hL
  walk_at "W"
  refine B_ F (by walk_at "gm") (c_int p).no (c_int p).val ?_
  walk_at "W"
  refine Is_none_int ?_
  walk_at "W"
  exact ⟨rfl, rfl⟩
theorem c_bool (p : Pm) : Built p "bool" (.type "bool") := ⟨by k_is, rfl, .type⟩
theorem is_whole_int {i : Int} (hi : 0 ≤ i) : CWd p 1 (.ref 550) [.int i] H (.bool true) H := by
  refine CW_0 (params := ["value"]) ["value"] ["isinstance", "int", "bool"] [some (.int i)] (fun us h => match us, h with | [u], _ => rfl) ?_
  intro c F hT hL
  walk_at "W"
  refine B_ F (by walk_at "gm") (c_int p).no (c_int p).val ?_
  walk_at "W"
  refine Is_int_int ?_
  walk_at "W"
  refine B_ F (by walk_at "gm") (c_bool p).no (c_bool p).val ?_
  walk_at "W"
  refine Is_int_bool ?_
  walk_at "W"
  exact ⟨by simp [retV, hi], rfl⟩
theorem Le_fresh {H : HM} {d2 : Addr} {o : AObj} (h : H d2 = none) : Le H (upd H d2 o) := Le.upd o h
theorem take_ref_no (hl : l.length ≤ 16777216) (hk : k ≤ l.length) {i : Int} (h0 : runB l (ws l k) = []) : CWd p 13 (.ref 557) [.ob 147 a d, .int i] (Cu H d l k) (.int i) (Cu H d l k) := by
  refine CW.dropped ?_
  refine CW_0 (params := ["cursor", "number"]) ["cursor", "number", "probe", "generation"] ["Cursor", "read_decimal", "is_whole", "Reference"] [some (.ob 147 a d), some (.int i), none, none] (fun us h => match us, h with | [u, v], _ => rfl) ?_
  intro c F hT hL
  walk_at "W"
  refine Os_Cursor3 F hl (by decide) fun a2 d2 ha2 hd2 => ?_
  walk_at "W"
  refine F_callE F (skip_white_spec hl) (by decide) ?_
  walk_at "W"
  refine F_callE F (take_regular_spec hl (ws_le l k hk)) (by decide) ?_
  walk_at "W"
  rw [show (l.drop (ws l k)).take (rg l (ws l k) - ws l k) = [] from h0]
  refine F_callE F read_decimal_nil (by decide) ?_
  walk_at "W"
  refine F_callE F (skip_white_spec hl) (by decide) ?_
  walk_at "W"
  refine F_callE F is_whole_none (by decide) ?_
  walk_at "W"
  exact ⟨_, Le_fresh hd2, rfl, rfl⟩
theorem take_ref_yes (hl : l.length ≤ 16777216) (hk : k ≤ l.length) {i : Int} (h0 : runB l (ws l k) = [48]) (h1 : runB l (ws l (rg l (ws l k))) = [82]) :
    CWd p 13 (.ref 557) [.ob 147 a d, .int i] (Cu H d l k) (.obj 480 ["number", "generation"] [.int i, .int 0]) (Cu H d l (rg l (ws l (rg l (ws l k))))) := by
  refine CW.dropped ?_
  refine CW_0 (params := ["cursor", "number"]) ["cursor", "number", "probe", "generation"] ["Cursor", "read_decimal", "is_whole", "Reference"] [some (.ob 147 a d), some (.int i), none, none] (fun us h => match us, h with | [u, v], _ => rfl) ?_
  intro c F hT hL
  have hk1 := ws_le l k hk
  have hk2 := rg_le l _ hk1
  have hk3 := ws_le l _ hk2
  walk_at "W"
  refine Os_Cursor3 F hl (by decide) fun a2 d2 ha2 hd2 => ?_
  walk_at "W"
  refine F_callE F (skip_white_spec hl) (by decide) ?_
  walk_at "W"
  refine F_callE F (take_regular_spec hl hk1) (by decide) ?_
  walk_at "W"
  rw [show (l.drop (ws l k)).take (rg l (ws l k) - ws l k) = [48] from h0]
  refine F_callE F (read_decimal_figs (w := [48]) (by intro x hx; simp at hx; subst hx; decide) (by decide) (by decide)) (by decide) ?_
  walk_at "W"
  refine F_callE F (skip_white_spec hl) (by decide) ?_
  walk_at "W"
  refine F_callE F (is_whole_int (by decide)) (by decide) ?_
  walk_at "W"
  refine F_callE F (take_regular_spec hl hk3) (by decide) ?_
  walk_at "W"
  rw [show (l.drop (ws l (rg l (ws l k)))).take (rg l (ws l (rg l (ws l k))) - ws l (rg l (ws l k))) = [82] from h1]
  refine if_ne (fun h => absurd rfl h) (fun h => ?_)
  walk_at "W"
  unfold Cu at hd2
  have hne : d ≠ d2 := fun q => by subst q; rw [upd_same] at hd2; cases hd2
  have hHd2 : H d2 = none := by rw [upd_ne hne.symm] at hd2; exact hd2
  show U2 p c _ (upd (upd H d (.flds (curs l k))) d2 (.flds (curs l _))) _ _ _ _ _
  rw [upd_comm _ _ _ hne]
  refine U_C_at ?_
  walk_at "W"
  refine Os_Reference F (by decide) ?_
  walk_at "W"
  refine ⟨_, ?_, rfl, rfl⟩
  show Le (upd H d _) (upd (upd H d2 _) d _)
  rw [upd_comm _ _ _ hne.symm]
  exact Le_fresh (by rw [upd_ne hne.symm]; exact hHd2)
theorem plain_int {i : Int} {v : V} {H1 : HM} (hi : 0 ≤ i) {at_ : V} {m : Nat} (hm : m ≤ 13) (hr : CWd p m (.ref 557) [.ob 147 a d, .int i] H v H1) : CWd p 14 (.ref 571) [.ob 147 a d, .tup [.str "int", .int i, at_], .bool true] H v H1 := by
  refine CW_0 (params := ["cursor", "token", "lets_references"]) ["cursor", "token", "lets_references", "kind", "worth", "at"] ["take_reference", "Name", "String", "word_value", "SyntaxFault"] [some (.ob 147 a d), some (.tup [.str "int", .int i, at_]), some (.bool true), none, none, none] (fun us h => match us, h with | [u, v, x], _ => rfl) ?_
  intro c F hT hL
  walk_at "W"
  refine if_eq (fun h => ?_) (fun h => absurd rfl h)
  walk_at "W"
  refine if_dec (fun _ => ?_) (fun h => absurd hi h)
  walk_at "W"
  refine F_callE F hr hm ?_
  exact ⟨rfl, rfl⟩
theorem plain_name {w : Str} {at_ : V} {b : Bool} : CWd p 14 (.ref 571) [.ob 147 a d, .tup [.str "name", .str w, at_], .bool b] H (.obj 409 ["text"] [.str w]) H := by
  refine CW_0 (params := ["cursor", "token", "lets_references"]) ["cursor", "token", "lets_references", "kind", "worth", "at"] ["take_reference", "Name", "String", "word_value", "SyntaxFault"] [some (.ob 147 a d), some (.tup [.str "name", .str w, at_]), some (.bool b), none, none, none] (fun us h => match us, h with | [u, v, x], _ => rfl) ?_
  intro c F hT hL
  walk_at "W"
  refine if_eq (fun h => absurd h (by decide)) (fun h => ?_)
  walk_at "W"
  refine if_eq (fun h => absurd h (by decide)) (fun h => ?_)
  walk_at "W"
  refine if_eq (fun h => absurd h (by decide)) (fun h => ?_)
  walk_at "W"
  refine if_eq (fun h => ?_) (fun h => absurd rfl h)
  walk_at "W"
  refine Os_Name F (by decide) ?_
  walk_at "W"
  exact ⟨rfl, rfl⟩
end
end BodyR4
end Group8
section Group9
local macro_rules | `(tactic| walk_at "hv") => `(tactic| first
  | ((show EW _ _ _ _ (eval (Expr.Call (Expr.Name (Str.ofString "CrossFault") _) _ _ _) _) _ _); (refine C_fn (by assumption) (by walk_at "gm") (c_CrossFault _) ?_))
  | ((show EW _ _ _ _ (eval (Expr.Call (Expr.Name (Str.ofString "Cursor") _) _ _ _) _) _ _); (refine C_fn (by assumption) (by walk_at "gm") (c_Cursor _) ?_))
  | ((show EW _ _ _ _ (eval (Expr.Call (Expr.Name (Str.ofString "Entry") _) _ _ _) _) _ _); (refine C_fn (by assumption) (by walk_at "gm") (c_Entry _) ?_))
  | ((show EW _ _ _ _ (eval (Expr.Call (Expr.Name (Str.ofString "Name") _) _ _ _) _) _ _); (refine C_fn (by assumption) (by walk_at "gm") (c_Name _) ?_))
  | ((show EW _ _ _ _ (eval (Expr.Call (Expr.Name (Str.ofString "Reference") _) _ _ _) _) _ _); (refine C_fn (by assumption) (by walk_at "gm") (c_Reference _) ?_))
  | ((show EW _ _ _ _ (eval (Expr.Call (Expr.Name (Str.ofString "Frame") _) _ _ _) _) _ _); (refine C_fn (by assumption) (by walk_at "gm") (c_Frame _) ?_))
  | ((show EW _ _ _ _ (eval (Expr.Call (Expr.Name (Str.ofString "is_regular") _) _ _ _) _) _ _); (refine C_fn (by assumption) (by walk_at "gm") (c_is_regular _) ?_))
  | ((show EW _ _ _ _ (eval (Expr.Call (Expr.Name (Str.ofString "is_figure") _) _ _ _) _) _ _); (refine C_fn (by assumption) (by walk_at "gm") (c_is_figure _) ?_))
  | ((show EW _ _ _ _ (eval (Expr.Call (Expr.Name (Str.ofString "name_text") _) _ _ _) _) _ _); (refine C_fn (by assumption) (by walk_at "gm") (c_name_text _) ?_))
  | ((show EW _ _ _ _ (eval (Expr.Call (Expr.Name (Str.ofString "read_decimal") _) _ _ _) _) _ _); (refine C_fn (by assumption) (by walk_at "gm") (c_read_decimal _) ?_))
  | ((show EW _ _ _ _ (eval (Expr.Call (Expr.Name (Str.ofString "run_token") _) _ _ _) _) _ _); (refine C_fn (by assumption) (by walk_at "gm") (c_run_token _) ?_))
  | ((show EW _ _ _ _ (eval (Expr.Call (Expr.Name (Str.ofString "delimited_token") _) _ _ _) _) _ _); (refine C_fn (by assumption) (by walk_at "gm") (c_delimited_token _) ?_))
  | ((show EW _ _ _ _ (eval (Expr.Call (Expr.Name (Str.ofString "next_token") _) _ _ _) _) _ _); (refine C_fn (by assumption) (by walk_at "gm") (c_next_token _) ?_))
  | ((show EW _ _ _ _ (eval (Expr.Call (Expr.Name (Str.ofString "is_sign") _) _ _ _) _) _ _); (refine C_fn (by assumption) (by walk_at "gm") (c_is_sign _) ?_))
  | ((show EW _ _ _ _ (eval (Expr.Call (Expr.Name (Str.ofString "is_whole") _) _ _ _) _) _ _); (refine C_fn (by assumption) (by walk_at "gm") (c_is_whole _) ?_))
  | ((show EW _ _ _ _ (eval (Expr.Call (Expr.Name (Str.ofString "take_reference") _) _ _ _) _) _ _); (refine C_fn (by assumption) (by walk_at "gm") (c_take_reference _) ?_))
  | ((show EW _ _ _ _ (eval (Expr.Call (Expr.Name (Str.ofString "dict_of") _) _ _ _) _) _ _); (refine C_fn (by assumption) (by walk_at "gm") (c_dict_of _) ?_))
  | ((show EW _ _ _ _ (eval (Expr.Call (Expr.Name (Str.ofString "len") _) _ _ _) _) _ _); (refine C_bt (by assumption) (by walk_at "gm") (c_len _) ?_))
  | ((show EW _ _ _ _ (eval (Expr.Call (Expr.Name (Str.ofString "str") _) _ _ _) _) _ _); (refine C_bt (by assumption) (by walk_at "gm") (c_str _) ?_))
  | ((show EW _ _ _ _ (eval (Expr.Call (Expr.Name (Str.ofString "min") _) _ _ _) _) _ _); (refine C_bt (by assumption) (by walk_at "gm") (c_min _) ?_))
  | ((show EW _ _ _ _ (eval (Expr.Call (Expr.Name (Str.ofString "range") _) _ _ _) _) _ _); (refine C_bt (by assumption) (by walk_at "gm") (c_range _) ?_))
  | ((show EW _ _ _ _ (eval (Expr.Call (Expr.Name (Str.ofString "chr") _) _ _ _) _) _ _); (refine C_bt (by assumption) (by walk_at "gm") (c_chr _) ?_))
  | ((show EW _ _ _ _ (eval (Expr.Call (Expr.Name (Str.ofString "isinstance") _) _ _ _) _) _ _); (refine C_bt (by assumption) (by walk_at "gm") (c_isinstance _) ?_))
  | ((show EW _ _ _ _ (eval (Expr.Name (Str.ofString "LINE_FEED") _) _) _ _); (refine G_int (by assumption) (by walk_at "gm") (g_LINE_FEED _) ?_))
  | ((show EW _ _ _ _ (eval (Expr.Name (Str.ofString "RETURN") _) _) _ _); (refine G_int (by assumption) (by walk_at "gm") (g_RETURN _) ?_))
  | ((show EW _ _ _ _ (eval (Expr.Name (Str.ofString "COMMENT") _) _) _ _); (refine G_int (by assumption) (by walk_at "gm") (g_COMMENT _) ?_))
  | ((show EW _ _ _ _ (eval (Expr.Name (Str.ofString "MOST_FIGURES_cursor") _) _) _ _); (refine G_int (by assumption) (by walk_at "gm") (g_MOST_FIGURES_cursor _) ?_))
  | ((show EW _ _ _ _ (eval (Expr.Name (Str.ofString "HASH") _) _) _ _); (refine G_int (by assumption) (by walk_at "gm") (g_HASH _) ?_))
  | ((show EW _ _ _ _ (eval (Expr.Name (Str.ofString "PLUS") _) _) _ _); (refine G_int (by assumption) (by walk_at "gm") (g_PLUS _) ?_))
  | ((show EW _ _ _ _ (eval (Expr.Name (Str.ofString "MINUS") _) _) _ _); (refine G_int (by assumption) (by walk_at "gm") (g_MINUS _) ?_))
  | ((show EW _ _ _ _ (eval (Expr.Name (Str.ofString "POINT") _) _) _ _); (refine G_int (by assumption) (by walk_at "gm") (g_POINT _) ?_))
  | ((show EW _ _ _ _ (eval (Expr.Name (Str.ofString "ZERO") _) _) _ _); (refine G_int (by assumption) (by walk_at "gm") (g_ZERO _) ?_))
  | ((show EW _ _ _ _ (eval (Expr.Name (Str.ofString "MOST_FIGURES_decimals") _) _) _ _); (refine G_int (by assumption) (by walk_at "gm") (g_MOST_FIGURES_decimals _) ?_))
  | ((show EW _ _ _ _ (eval (Expr.Name (Str.ofString "SLASH") _) _) _ _); (refine G_int (by assumption) (by walk_at "gm") (g_SLASH _) ?_))
  | ((show EW _ _ _ _ (eval (Expr.Name (Str.ofString "PAREN") _) _) _ _); (refine G_int (by assumption) (by walk_at "gm") (g_PAREN _) ?_))
  | ((show EW _ _ _ _ (eval (Expr.Name (Str.ofString "CLOSE_PAREN") _) _) _ _); (refine G_int (by assumption) (by walk_at "gm") (g_CLOSE_PAREN _) ?_))
  | ((show EW _ _ _ _ (eval (Expr.Name (Str.ofString "LESS") _) _) _ _); (refine G_int (by assumption) (by walk_at "gm") (g_LESS _) ?_))
  | ((show EW _ _ _ _ (eval (Expr.Name (Str.ofString "GREATER") _) _) _ _); (refine G_int (by assumption) (by walk_at "gm") (g_GREATER _) ?_))
  | ((show EW _ _ _ _ (eval (Expr.Name (Str.ofString "WHITE") _) _) _ _); (refine G_ref (by assumption) (by walk_at "gm") (g_WHITE _) ?_))
  | ((show EW _ _ _ _ (eval (Expr.Name (Str.ofString "DELIMITERS") _) _) _ _); (refine G_ref (by assumption) (by walk_at "gm") (g_DELIMITERS _) ?_))
  | ((show EW _ _ _ _ (eval (Expr.Name (Str.ofString "SIGNS") _) _) _ _); (refine G_ref (by assumption) (by walk_at "gm") (g_SIGNS _) ?_)))
local macro_rules | `(tactic| walk_at "hm") => `(tactic| first
  | ((show O2 _ _ _ _ (binaryOp Operator.Mult) _ _ _ _); first | (refine O_mul10R ?_) | (refine O_mul10L ?_)))
local macro_rules | `(tactic| walk_at "hs") => `(tactic| first
  | ((show SW _ _ _ _ (execs (Stmt.Raise (some (Expr.Call (Expr.Name (Str.ofString "CrossFault") _) _ _ _)) none _ :: _) _) _ _); (refine K_Cross (by assumption) ?_)))
local macro_rules | `(tactic| walk_at "hr") => `(tactic| first
  | (refine Os_range1 ?_)
  | (refine Os_range2 ?_))
local macro_rules | `(tactic| walk_at "hi") => `(tactic| first
  | refine if_nt ?_
  | refine if_nf ?_)
section BodyR5
local macro_rules | `(tactic| walk_at "h") => `(tactic| first | exact upd_same .. | assumption | (rw [upd_ne (by first | assumption | (apply Ne.symm; assumption))]; walk_at "h"))
theorem fresh_of {H : HM} {a b : Addr} {o : AObj} (h : upd H a o b = none) : b ≠ a ∧ H b = none := by
  have hb : b ≠ a := fun q => by subst q; rw [upd_same] at h; cases h
  exact ⟨hb, by rwa [upd_ne hb] at h⟩
theorem ne_of_some {H : HM} {a b : Addr} {o : AObj} (h : H a = some o) (h' : H b = none) : a ≠ b := fun q => by rw [q, h'] at h; cases h
theorem LeUpd2 {H H' : HM} {D : Addr} {x : AObj} (h : Le H H') : Le (upd H D x) (upd H' D x) := fun b o e => by
  by_cases q : b = D
  · subst q; rw [upd_same] at e ⊢; exact e
  · rw [upd_ne q] at e ⊢; exact h _ _ e
section
variable {p : Pm} {n : Nat} {c : Cx} {ρ : LM} {H : HM} {X : XQ} {Q : V → HM → Prop} {xs gs : List Str} {a d : Addr} {l : List UInt8} {k : Nat}
theorem dict_of_spec {LI : Addr} {w1 w2 : Str} {v1 v2 : V} (hne : w1 ≠ w2) (n1 : v1.isNone = false) (n2 : v2.isNone = false) (c1 : ∀ x, v1 ≠ .con x) (c2 : ∀ x, v2 ≠ .con x)
    (hLI : H LI = some (.list [.obj 409 ["text"] [.str w1], v1, .obj 409 ["text"] [.str w2], v2])) :
    CW p 5 (.ref 576) [.ref LI] H (fun v H' => ∃ D, H D = none ∧ v = .ref D ∧ H' = upd H D (.dstr [(w1, v1), (w2, v2)])) NXc := by
  refine CW.dropped ?_
  refine CW_cell1 (y := "items") (z := "found") ["items", "spot"] ["range", "len"] [some (.ref LI), none] (fun u => rfl) (fun L => rfl) ?_
  intro c ca F hT hL Cf hca hcaL
  obtain ⟨its, hits⟩ : ∃ its : List V, its = [.obj 409 ["text"] [.str w1], v1, .obj 409 ["text"] [.str w2], v2] := ⟨_, rfl⟩
  have hlen : its.length = 4 := by rw [hits]; rfl
  rw [← hits] at hLI
  have hLc : LI ≠ ca := ne_of_some hLI hca
  walk_at "W"
  refine E_Dict0S fun D0 hD0 => ?_
  obtain ⟨hDc, hHD⟩ := fresh_of hD0
  have hLD : LI ≠ D0 := ne_of_some hLI hHD
  refine Uc_ F Cf (v₀ := none) (by rw [upd_ne hDc.symm]; exact upd_same ..) ?_
  rw [upd_comm _ _ _ hDc, upd_upd]
  walk_at "W"
  refine Os_len_list (vs := its) (by walk_at "h") (by omega) ?_
  rw [hlen]
  walk_at "W"
  refine Os_range3 (by decide) (by decide) (by decide) ?_
  refine I_rng (n := 2) (by decide) ?_
  refine ⟨fun i vals H' => vals = [some (.ref LI), none] ∧ i ≤ 2 ∧ H' = upd (upd H D0 (.dstr ([(w1, v1), (w2, v2)].take i))) ca (.cell (some (.ref D0))), _, by walk_at "le", ⟨rfl, by decide, upd_comm _ _ _ hDc.symm⟩, ?_, ?_⟩
  · rintro i x vals H₁ hx ⟨rfl, hi2, rfl⟩
    obtain ⟨him, rfl⟩ := rng_get hx
    walk_at "W"
    have hitem : ∀ (j : Nat) (v : V), its[j]? = some v → ∀ {o e : Expr} {Q' : V → HM → Prop} {ρ' : LM}, (∀ x y, subscripted e false x y = operate [x, y] (getItem x y)) → Q' v (upd (upd H D0 (.dstr ([(w1, v1), (w2, v2)].take i))) ca (.cell (some (.ref D0)))) →
        O2 p c ρ' (upd (upd H D0 (.dstr ([(w1, v1), (w2, v2)].take i))) ca (.cell (some (.ref D0)))) (fun x y => subscriptTail o e x y) (.ref LI) (.int (j : Int)) Q' (fun C fs x H' => NXc C fs H') := fun j v hj {o e Q' ρ'} hs q =>
      O_item_list (vs := its) (by walk_at "h") (by omega) (by have := (List.getElem?_eq_some_iff.mp hj).1; omega) (by simpa using hj) q hs
    have e1 : (0 : Int) + ((i : Nat) : Int) * 2 + 1 = ((2 * i + 1 : Nat) : Int) := by omega
    have e2 : (0 : Int) + ((i : Nat) : Int) * 2 = ((2 * i : Nat) : Int) := by omega
    rcases (by omega : i = 0 ∨ i = 1) with rfl | rfl
    · refine hitem 1 v1 (by rw [hits]; rfl) (by intro _ _; with_unfolding_all rfl) ?_
      refine Cl_ F Cf (by walk_at "h") ?_
      walk_at "W"
      refine hitem 0 _ (by rw [hits]; rfl) (by intro _ _; with_unfolding_all rfl) ?_
      refine A_obj (a_text p) rfl ?_
      refine U_set_dstr (es := []) (by rw [upd_ne hDc]; exact upd_same ..) (by decide) ?_
      walk_at "W"
      refine Turn.nx (F := F) (vals := [_, none]) (by walk_at "le") ⟨rfl, by decide, ?_⟩
      rw [upd_comm _ _ _ hDc.symm, upd_upd]; rfl
    · refine hitem 3 v2 (by rw [hits]; rfl) (by intro _ _; with_unfolding_all rfl) ?_
      refine Cl_ F Cf (by walk_at "h") ?_
      walk_at "W"
      refine hitem 2 _ (by rw [hits]; rfl) (by intro _ _; with_unfolding_all rfl) ?_
      refine A_obj (a_text p) rfl ?_
      refine U_set_dstr (es := [(w1, v1)]) (by rw [upd_ne hDc]; exact upd_same ..) (by simp) ?_
      walk_at "W"
      refine Turn.nx (F := F) (vals := [_, none]) (by walk_at "le") ⟨rfl, by decide, ?_⟩
      rw [upd_comm _ _ _ hDc.symm, upd_upd]
      simp [gst, hne]
  · rintro vals H₁ ⟨rfl, hi2, rfl⟩
    rw [rng_len]
    refine SW.frz (E := D0) (o := .fdstr [(w1, v1), (w2, v2)]) (.inr (.inl ⟨_, by rw [upd_ne hDc]; exact upd_same .., rfl⟩)) ?_
    rw [upd_comm _ _ _ hDc.symm, upd_upd]
    have hle : Le H (upd (upd H D0 (.fdstr [(w1, v1), (w2, v2)])) ca (.cell (some (.ref D0)))) := fun b o e => by
      rw [upd_ne (ne_of_some e hca), upd_ne (ne_of_some e hHD)]; exact e
    generalize hHf : upd (upd H D0 (.fdstr [(w1, v1), (w2, v2)])) ca (.cell (some (.ref D0))) = Hf at *
    have oD0 : Hf D0 = some (.fdstr [(w1, v1), (w2, v2)]) := by rw [← hHf, upd_ne hDc]; exact upd_same ..
    have oca : Hf ca = some (.cell (some (.ref D0))) := by rw [← hHf]; exact upd_same ..
    walk_at "W"
    refine E_DictComp (cl := [("found", ca)]) (closure_of (by simp [cellsOf, Cf.cell])) ?_ F.L
    refine Cl_ F Cf oca ?_
    refine I_dictS oD0 ⟨fun i acc H₃ => i ≤ 2 ∧ acc = [(w1, v1), (w2, v2)].take i ∧ H₃ = Hf, ⟨by simp, ⟨by decide, rfl, rfl⟩, fun i acc H₃ b ⟨_, _, h⟩ hb => by rw [h]; exact hb, fun i acc H₃ ⟨_, h, _⟩ => by rw [h, List.length_take]; omega, ?_⟩, ?_⟩
    · rintro C D i y acc H₃ hC hy ⟨hi2, rfl, rfl⟩ hHC hHD' hDC
      have hDD : D0 ≠ D := ne_of_some oD0 hHD'
      have hcD : ca ≠ D := ne_of_some oca hHD'
      have es_i : ∃ w v, [(w1, v1), (w2, v2)][i]? = some (w, v) ∧ y = .str w ∧ gva [(w1, v1), (w2, v2)] w = some v ∧ v.isNone = false ∧ (∀ x, v ≠ .con x) ∧ gst ([(w1, v1), (w2, v2)].take i) w v = [(w1, v1), (w2, v2)].take (i + 1) ∧ i < 2 := by
        match i, hy with
        | 0, h => exact ⟨w1, v1, rfl, (Option.some.inj h).symm, by simp [gva], n1, c1, rfl, by decide⟩
        | 1, h => exact ⟨w2, v2, rfl, (Option.some.inj h).symm, by simp [gva, hne], n2, c2, by simp [gst, hne], by decide⟩
      obtain ⟨w, v, hes, rfl, hg, hn, hc, hst, hi2'⟩ := es_i
      refine U1.inComp F hC ["key"] [] [none] fun F' ce => ?_
      have Cf' := ce _ _ Cf rfl rfl
      walk_at "W"
      show BW _ _ _ _ _ _ _
      walk_at "W"
      refine Cl_ F' Cf' (by rw [upd_ne hcD]; exact oca) ?_
      walk_at "W"
      refine O_item_fdstr (by rw [upd_ne hDD]; exact oD0) hg ?_
      walk_at "W"
      refine O_isnot_none hc ?_
      rw [hn]
      walk_at "W"
      refine ⟨_, rfl, ?_⟩
      walk_at "W"
      refine Cl_ F' Cf' (by rw [upd_ne hcD]; exact oca) ?_
      walk_at "W"
      refine O_item_fdstr (by rw [upd_ne hDD]; exact oD0) hg ?_
      exact ⟨_, rfl, hHD', by omega, hst, rfl⟩
    · rintro acc H₃ D ⟨_, rfl, rfl⟩ hD
      have hHD' : H D = none := by
        cases q : H D with
        | none => rfl
        | some o => rw [hle D o q] at hD; cases hD
      exact ⟨upd H D (.dstr [(w1, v1), (w2, v2)]), LeUpd2 hle, D, hHD', rfl, rfl⟩
end
end BodyR5
end Group9
section Group10
local macro_rules | `(tactic| walk_at "hv") => `(tactic| first
  | ((show EW _ _ _ _ (eval (Expr.Call (Expr.Name (Str.ofString "CrossFault") _) _ _ _) _) _ _); (refine C_fn (by assumption) (by walk_at "gm") (c_CrossFault _) ?_))
  | ((show EW _ _ _ _ (eval (Expr.Call (Expr.Name (Str.ofString "Cursor") _) _ _ _) _) _ _); (refine C_fn (by assumption) (by walk_at "gm") (c_Cursor _) ?_))
  | ((show EW _ _ _ _ (eval (Expr.Call (Expr.Name (Str.ofString "Entry") _) _ _ _) _) _ _); (refine C_fn (by assumption) (by walk_at "gm") (c_Entry _) ?_))
  | ((show EW _ _ _ _ (eval (Expr.Call (Expr.Name (Str.ofString "Name") _) _ _ _) _) _ _); (refine C_fn (by assumption) (by walk_at "gm") (c_Name _) ?_))
  | ((show EW _ _ _ _ (eval (Expr.Call (Expr.Name (Str.ofString "Reference") _) _ _ _) _) _ _); (refine C_fn (by assumption) (by walk_at "gm") (c_Reference _) ?_))
  | ((show EW _ _ _ _ (eval (Expr.Call (Expr.Name (Str.ofString "Frame") _) _ _ _) _) _ _); (refine C_fn (by assumption) (by walk_at "gm") (c_Frame _) ?_))
  | ((show EW _ _ _ _ (eval (Expr.Call (Expr.Name (Str.ofString "is_regular") _) _ _ _) _) _ _); (refine C_fn (by assumption) (by walk_at "gm") (c_is_regular _) ?_))
  | ((show EW _ _ _ _ (eval (Expr.Call (Expr.Name (Str.ofString "is_figure") _) _ _ _) _) _ _); (refine C_fn (by assumption) (by walk_at "gm") (c_is_figure _) ?_))
  | ((show EW _ _ _ _ (eval (Expr.Call (Expr.Name (Str.ofString "name_text") _) _ _ _) _) _ _); (refine C_fn (by assumption) (by walk_at "gm") (c_name_text _) ?_))
  | ((show EW _ _ _ _ (eval (Expr.Call (Expr.Name (Str.ofString "read_decimal") _) _ _ _) _) _ _); (refine C_fn (by assumption) (by walk_at "gm") (c_read_decimal _) ?_))
  | ((show EW _ _ _ _ (eval (Expr.Call (Expr.Name (Str.ofString "run_token") _) _ _ _) _) _ _); (refine C_fn (by assumption) (by walk_at "gm") (c_run_token _) ?_))
  | ((show EW _ _ _ _ (eval (Expr.Call (Expr.Name (Str.ofString "delimited_token") _) _ _ _) _) _ _); (refine C_fn (by assumption) (by walk_at "gm") (c_delimited_token _) ?_))
  | ((show EW _ _ _ _ (eval (Expr.Call (Expr.Name (Str.ofString "next_token") _) _ _ _) _) _ _); (refine C_fn (by assumption) (by walk_at "gm") (c_next_token _) ?_))
  | ((show EW _ _ _ _ (eval (Expr.Call (Expr.Name (Str.ofString "is_sign") _) _ _ _) _) _ _); (refine C_fn (by assumption) (by walk_at "gm") (c_is_sign _) ?_))
  | ((show EW _ _ _ _ (eval (Expr.Call (Expr.Name (Str.ofString "is_whole") _) _ _ _) _) _ _); (refine C_fn (by assumption) (by walk_at "gm") (c_is_whole _) ?_))
  | ((show EW _ _ _ _ (eval (Expr.Call (Expr.Name (Str.ofString "take_reference") _) _ _ _) _) _ _); (refine C_fn (by assumption) (by walk_at "gm") (c_take_reference _) ?_))
  | ((show EW _ _ _ _ (eval (Expr.Call (Expr.Name (Str.ofString "dict_of") _) _ _ _) _) _ _); (refine C_fn (by assumption) (by walk_at "gm") (c_dict_of _) ?_))
  | ((show EW _ _ _ _ (eval (Expr.Call (Expr.Name (Str.ofString "close_frame") _) _ _ _) _) _ _); (refine C_fn (by assumption) (by walk_at "gm") (c_close_frame _) ?_))
  | ((show EW _ _ _ _ (eval (Expr.Call (Expr.Name (Str.ofString "len") _) _ _ _) _) _ _); (refine C_bt (by assumption) (by walk_at "gm") (c_len _) ?_))
  | ((show EW _ _ _ _ (eval (Expr.Call (Expr.Name (Str.ofString "str") _) _ _ _) _) _ _); (refine C_bt (by assumption) (by walk_at "gm") (c_str _) ?_))
  | ((show EW _ _ _ _ (eval (Expr.Call (Expr.Name (Str.ofString "min") _) _ _ _) _) _ _); (refine C_bt (by assumption) (by walk_at "gm") (c_min _) ?_))
  | ((show EW _ _ _ _ (eval (Expr.Call (Expr.Name (Str.ofString "range") _) _ _ _) _) _ _); (refine C_bt (by assumption) (by walk_at "gm") (c_range _) ?_))
  | ((show EW _ _ _ _ (eval (Expr.Call (Expr.Name (Str.ofString "chr") _) _ _ _) _) _ _); (refine C_bt (by assumption) (by walk_at "gm") (c_chr _) ?_))
  | ((show EW _ _ _ _ (eval (Expr.Call (Expr.Name (Str.ofString "isinstance") _) _ _ _) _) _ _); (refine C_bt (by assumption) (by walk_at "gm") (c_isinstance _) ?_))
  | ((show EW _ _ _ _ (eval (Expr.Name (Str.ofString "LINE_FEED") _) _) _ _); (refine G_int (by assumption) (by walk_at "gm") (g_LINE_FEED _) ?_))
  | ((show EW _ _ _ _ (eval (Expr.Name (Str.ofString "RETURN") _) _) _ _); (refine G_int (by assumption) (by walk_at "gm") (g_RETURN _) ?_))
  | ((show EW _ _ _ _ (eval (Expr.Name (Str.ofString "COMMENT") _) _) _ _); (refine G_int (by assumption) (by walk_at "gm") (g_COMMENT _) ?_))
  | ((show EW _ _ _ _ (eval (Expr.Name (Str.ofString "MOST_FIGURES_cursor") _) _) _ _); (refine G_int (by assumption) (by walk_at "gm") (g_MOST_FIGURES_cursor _) ?_))
  | ((show EW _ _ _ _ (eval (Expr.Name (Str.ofString "HASH") _) _) _ _); (refine G_int (by assumption) (by walk_at "gm") (g_HASH _) ?_))
  | ((show EW _ _ _ _ (eval (Expr.Name (Str.ofString "PLUS") _) _) _ _); (refine G_int (by assumption) (by walk_at "gm") (g_PLUS _) ?_))
  | ((show EW _ _ _ _ (eval (Expr.Name (Str.ofString "MINUS") _) _) _ _); (refine G_int (by assumption) (by walk_at "gm") (g_MINUS _) ?_))
  | ((show EW _ _ _ _ (eval (Expr.Name (Str.ofString "POINT") _) _) _ _); (refine G_int (by assumption) (by walk_at "gm") (g_POINT _) ?_))
  | ((show EW _ _ _ _ (eval (Expr.Name (Str.ofString "ZERO") _) _) _ _); (refine G_int (by assumption) (by walk_at "gm") (g_ZERO _) ?_))
  | ((show EW _ _ _ _ (eval (Expr.Name (Str.ofString "MOST_FIGURES_decimals") _) _) _ _); (refine G_int (by assumption) (by walk_at "gm") (g_MOST_FIGURES_decimals _) ?_))
  | ((show EW _ _ _ _ (eval (Expr.Name (Str.ofString "SLASH") _) _) _ _); (refine G_int (by assumption) (by walk_at "gm") (g_SLASH _) ?_))
  | ((show EW _ _ _ _ (eval (Expr.Name (Str.ofString "PAREN") _) _) _ _); (refine G_int (by assumption) (by walk_at "gm") (g_PAREN _) ?_))
  | ((show EW _ _ _ _ (eval (Expr.Name (Str.ofString "CLOSE_PAREN") _) _) _ _); (refine G_int (by assumption) (by walk_at "gm") (g_CLOSE_PAREN _) ?_))
  | ((show EW _ _ _ _ (eval (Expr.Name (Str.ofString "LESS") _) _) _ _); (refine G_int (by assumption) (by walk_at "gm") (g_LESS _) ?_))
  | ((show EW _ _ _ _ (eval (Expr.Name (Str.ofString "GREATER") _) _) _ _); (refine G_int (by assumption) (by walk_at "gm") (g_GREATER _) ?_))
  | ((show EW _ _ _ _ (eval (Expr.Name (Str.ofString "WHITE") _) _) _ _); (refine G_ref (by assumption) (by walk_at "gm") (g_WHITE _) ?_))
  | ((show EW _ _ _ _ (eval (Expr.Name (Str.ofString "DELIMITERS") _) _) _ _); (refine G_ref (by assumption) (by walk_at "gm") (g_DELIMITERS _) ?_))
  | ((show EW _ _ _ _ (eval (Expr.Name (Str.ofString "SIGNS") _) _) _ _); (refine G_ref (by assumption) (by walk_at "gm") (g_SIGNS _) ?_)))
local macro_rules | `(tactic| walk_at "hm") => `(tactic| first
  | ((show O2 _ _ _ _ (binaryOp Operator.Mult) _ _ _ _); first | (refine O_mul10R ?_) | (refine O_mul10L ?_)))
local macro_rules | `(tactic| walk_at "hs") => `(tactic| first
  | ((show SW _ _ _ _ (execs (Stmt.Raise (some (Expr.Call (Expr.Name (Str.ofString "CrossFault") _) _ _ _)) none _ :: _) _) _ _); (refine K_Cross (by assumption) ?_)))
local macro_rules | `(tactic| walk_at "hr") => `(tactic| first
  | (refine Os_range1 ?_)
  | (refine Os_range2 ?_))
local macro_rules | `(tactic| walk_at "hi") => `(tactic| first
  | refine if_nt ?_
  | refine if_nf ?_)
section BodyR6
local macro_rules | `(tactic| walk_at "h") => `(tactic| first | exact upd_same .. | assumption | (rw [upd_ne (by first | assumption | (apply Ne.symm; assumption))]; walk_at "h"))
section
variable {p : Pm} {n : Nat} {c : Cx} {ρ : LM} {H : HM} {X : XQ} {Q : V → HM → Prop} {xs gs : List Str} {a d : Addr} {l : List UInt8} {k : Nat}
theorem Frame_init {a d : Addr} {m : V} : CW p 1 (.ref 529) [.ob 539 a d, m] (upd H d (.flds [])) (fun v H' => v = .none ∧ ∃ LI, H LI = none ∧ LI ≠ d ∧ H' = upd (upd H d (.flds [("mark", m), ("items", .ref LI)])) LI (.list [])) NXc := by
  refine CW_0 (params := ["self", "mark"]) ["self", "mark"] [] [some (.ob 539 a d), some m] (fun us h => match us, h with | [u, v], _ => rfl) ?_
  intro c F hT hL
  walk_at "W"
  refine U_self (s_mark p) ?_
  walk_at "W"
  intro LI hLI
  obtain ⟨h1, h2⟩ := fresh_of hLI
  walk_at "W"
  rw [upd_comm _ _ _ h1.symm]
  refine U_self (s_items p) ?_
  walk_at "W"
  refine ⟨rfl, LI, h2, h1, ?_⟩
  rw [upd_comm _ _ _ h1]; rfl
theorem Os_Frame (F : Fn p n c xs gs) {m : V} (hn : 11 ≤ n) (h : ∀ a d LI, H d = none → H LI = none → LI ≠ d → Q (.ob 539 a d) (upd (upd H d (.flds [("mark", m), ("items", .ref LI)])) LI (.list []))) : Os p c ρ H (fun us => call (.ref 539) us) [m] Q X :=
  Os_make (m := 1) (Xc := NXc) (cls_Frame p).makes (cls_Frame p).init (cls_Frame p).fn (Nat.le_trans hn F.n) F.L (fun a d ha hd => Frame_init.mono (Nat.le_refl _) (fun v H' ⟨e1, LI, h1, h2, e2⟩ => ⟨e1, by subst e2; exact h a d LI hd h1 h2⟩) (fun _ _ _ h => h)) (fun C fs H' h => h.elim)
def wk (its : List V) : Bool := ((its.length : Int).fmod 2 == 0)
theorem A_mark {fa fd : Addr} {m i : V} (hf : H fd = some (.flds [("mark", m), ("items", i)])) (hm : ∀ x, m = .con x → handedIn x = true) (h : Q m H) : O1 p c ρ H (fun u => getAttr u "mark" true) (.ob 539 fa fd) Q X :=
  O_getAttr (a_mark p) hf rfl hm h
theorem A_items {fa fd : Addr} {m i : V} (hf : H fd = some (.flds [("mark", m), ("items", i)])) (hm : ∀ x, i = .con x → handedIn x = true) (h : Q i H) : O1 p c ρ H (fun u => getAttr u "items" true) (.ob 539 fa fd) Q X :=
  O_getAttr (a_items p) hf rfl hm h
theorem wants_key_spec {fa fd LI : Addr} {its : List V} (hf : H fd = some (.flds [("mark", .bytes [60, 60]), ("items", .ref LI)])) (hi : H LI = some (.list its)) (hl : its.length ≤ 1000) : CWd p 1 (.ref 536) [.ob 539 fa fd] H (.bool (wk its)) H := by
  refine CW_0 (params := ["self"]) ["self"] ["len"] [some (.ob 539 fa fd)] (fun us h => match us, h with | [u], _ => rfl) ?_
  intro c F hT hL
  walk_at "W"
  refine A_mark hf (by intro x h; cases h) ?_
  walk_at "W"
  refine if_eq (fun h => ?_) (fun h => absurd rfl h)
  walk_at "W"
  refine A_items hf (by intro x h; cases h) ?_
  walk_at "W"
  refine Os_len_list hi (by omega) ?_
  walk_at "W"
  refine O_mod (by decide) ?_
  walk_at "W"
  exact ⟨rfl, rfl⟩
theorem G_wants {fa fd : Addr} {m i : V} {Qm : Value → List V → HM → Prop} (hf : H fd = some (.flds [("mark", m), ("items", i)])) (h : KeepOK p (.ref 536) → Qm (.ref 536) [.ob 539 fa fd] H) : G1 p c ρ H "wants_key" (.ob 539 fa fd) Qm X :=
  G_inst (b_wants_key p) hf rfl (h (.ref (kp_536 p)))
theorem close_frame_spec {LF fa fd LI : Addr} {at_ : V} {w1 w2 : Str} {v1 v2 : V} (hne : w1 ≠ w2) (n1 : v1.isNone = false) (n2 : v2.isNone = false) (c1 : ∀ x, v1 ≠ .con x) (c2 : ∀ x, v2 ≠ .con x)
    (hLF : H LF = some (.list [.ob 539 fa fd])) (hf : H fd = some (.flds [("mark", .bytes [60, 60]), ("items", .ref LI)])) (hLI : H LI = some (.list [.obj 409 ["text"] [.str w1], v1, .obj 409 ["text"] [.str w2], v2])) (h1 : LF ≠ fd) (h2 : LF ≠ LI) :
    CW p 6 (.ref 583) [.ref LF, .bytes [62, 62], at_] H (fun v H' => ∃ D, H D = none ∧ v = .ref D ∧ H' = upd (upd H LF (.list [])) D (.dstr [(w1, v1), (w2, v2)])) NXc := by
  refine CW.dropped ?_
  refine CW_0 (params := ["frames", "worth", "at"]) ["frames", "worth", "at", "opening", "frame"] ["SyntaxFault", "dict_of"] [some (.ref LF), some (.bytes [62, 62]), some at_, none, none] (fun us h => match us, h with | [u, v, w], _ => rfl) ?_
  intro c F hT hL
  walk_at "W"
  refine if_eq (fun h => absurd h (by decide)) (fun h => ?_)
  walk_at "W"
  intro b0 hb0
  have hFb : LF ≠ b0 := ne_of_some hLF hb0
  refine O_eqL0 (by walk_at "h") (upd_same ..) ?_
  walk_at "W"
  refine if_f ?_
  walk_at "W"
  refine O_last_list (by walk_at "h") rfl ?_
  have hfb : fd ≠ b0 := ne_of_some hf hb0
  have hLb : LI ≠ b0 := ne_of_some hLI hb0
  refine A_mark (by rw [upd_ne hfb]; exact hf) (by intro x h; cases h) ?_
  walk_at "W"
  refine if_ne (fun h => absurd rfl h) (fun h => ?_)
  walk_at "W"
  refine G_pop (by walk_at "h") ⟨.builtin, ?_⟩
  walk_at "W"
  refine Os_pop (vs := []) (by walk_at "h") (by decide) ?_
  walk_at "W"
  refine if_eq (fun h => absurd h (by decide)) (fun h => ?_)
  walk_at "W"
  refine G_wants (by rw [upd_ne h1.symm, upd_ne hfb]; exact hf) fun hk => ⟨hk, ?_⟩
  walk_at "W"
  refine F_callE F (wants_key_spec (by rw [upd_ne h1.symm, upd_ne hfb]; exact hf) (by rw [upd_ne h2.symm, upd_ne hLb]; exact hLI) (by simp)) (by decide) ?_
  walk_at "W"
  refine if_nb (fun h => absurd h (by simp [wk])) (fun h => ?_)
  walk_at "W"
  refine A_items (by rw [upd_ne h1.symm, upd_ne hfb]; exact hf) (by intro x h; cases h) ?_
  walk_at "W"
  refine F.call (dict_of_spec hne n1 n2 c1 c2 (by rw [upd_ne h2.symm, upd_ne hLb]; exact hLI)) (by decide) ?_ (fun _ _ _ h => h.elim)
  rintro v H' ⟨D, hD, rfl, rfl⟩
  obtain ⟨g1, g2⟩ := fresh_of hD
  obtain ⟨g3, g4⟩ := fresh_of g2
  refine ⟨upd (upd H LF (.list [])) D (.dstr [(w1, v1), (w2, v2)]), LeUpd2 (LeUpd2 (Le_fresh hb0)), D, g4, rfl, rfl⟩
end
end BodyR6
end Group10
section Group11
local macro_rules | `(tactic| walk_at "hv") => `(tactic| first
  | ((show EW _ _ _ _ (eval (Expr.Call (Expr.Name (Str.ofString "CrossFault") _) _ _ _) _) _ _); (refine C_fn (by assumption) (by walk_at "gm") (c_CrossFault _) ?_))
  | ((show EW _ _ _ _ (eval (Expr.Call (Expr.Name (Str.ofString "Cursor") _) _ _ _) _) _ _); (refine C_fn (by assumption) (by walk_at "gm") (c_Cursor _) ?_))
  | ((show EW _ _ _ _ (eval (Expr.Call (Expr.Name (Str.ofString "Entry") _) _ _ _) _) _ _); (refine C_fn (by assumption) (by walk_at "gm") (c_Entry _) ?_))
  | ((show EW _ _ _ _ (eval (Expr.Call (Expr.Name (Str.ofString "Name") _) _ _ _) _) _ _); (refine C_fn (by assumption) (by walk_at "gm") (c_Name _) ?_))
  | ((show EW _ _ _ _ (eval (Expr.Call (Expr.Name (Str.ofString "Reference") _) _ _ _) _) _ _); (refine C_fn (by assumption) (by walk_at "gm") (c_Reference _) ?_))
  | ((show EW _ _ _ _ (eval (Expr.Call (Expr.Name (Str.ofString "Frame") _) _ _ _) _) _ _); (refine C_fn (by assumption) (by walk_at "gm") (c_Frame _) ?_))
  | ((show EW _ _ _ _ (eval (Expr.Call (Expr.Name (Str.ofString "is_regular") _) _ _ _) _) _ _); (refine C_fn (by assumption) (by walk_at "gm") (c_is_regular _) ?_))
  | ((show EW _ _ _ _ (eval (Expr.Call (Expr.Name (Str.ofString "is_figure") _) _ _ _) _) _ _); (refine C_fn (by assumption) (by walk_at "gm") (c_is_figure _) ?_))
  | ((show EW _ _ _ _ (eval (Expr.Call (Expr.Name (Str.ofString "name_text") _) _ _ _) _) _ _); (refine C_fn (by assumption) (by walk_at "gm") (c_name_text _) ?_))
  | ((show EW _ _ _ _ (eval (Expr.Call (Expr.Name (Str.ofString "read_decimal") _) _ _ _) _) _ _); (refine C_fn (by assumption) (by walk_at "gm") (c_read_decimal _) ?_))
  | ((show EW _ _ _ _ (eval (Expr.Call (Expr.Name (Str.ofString "run_token") _) _ _ _) _) _ _); (refine C_fn (by assumption) (by walk_at "gm") (c_run_token _) ?_))
  | ((show EW _ _ _ _ (eval (Expr.Call (Expr.Name (Str.ofString "delimited_token") _) _ _ _) _) _ _); (refine C_fn (by assumption) (by walk_at "gm") (c_delimited_token _) ?_))
  | ((show EW _ _ _ _ (eval (Expr.Call (Expr.Name (Str.ofString "next_token") _) _ _ _) _) _ _); (refine C_fn (by assumption) (by walk_at "gm") (c_next_token _) ?_))
  | ((show EW _ _ _ _ (eval (Expr.Call (Expr.Name (Str.ofString "is_sign") _) _ _ _) _) _ _); (refine C_fn (by assumption) (by walk_at "gm") (c_is_sign _) ?_))
  | ((show EW _ _ _ _ (eval (Expr.Call (Expr.Name (Str.ofString "is_whole") _) _ _ _) _) _ _); (refine C_fn (by assumption) (by walk_at "gm") (c_is_whole _) ?_))
  | ((show EW _ _ _ _ (eval (Expr.Call (Expr.Name (Str.ofString "take_reference") _) _ _ _) _) _ _); (refine C_fn (by assumption) (by walk_at "gm") (c_take_reference _) ?_))
  | ((show EW _ _ _ _ (eval (Expr.Call (Expr.Name (Str.ofString "plain_value") _) _ _ _) _) _ _); (refine C_fn (by assumption) (by walk_at "gm") (c_plain_value _) ?_))
  | ((show EW _ _ _ _ (eval (Expr.Call (Expr.Name (Str.ofString "dict_of") _) _ _ _) _) _ _); (refine C_fn (by assumption) (by walk_at "gm") (c_dict_of _) ?_))
  | ((show EW _ _ _ _ (eval (Expr.Call (Expr.Name (Str.ofString "close_frame") _) _ _ _) _) _ _); (refine C_fn (by assumption) (by walk_at "gm") (c_close_frame _) ?_))
  | ((show EW _ _ _ _ (eval (Expr.Call (Expr.Name (Str.ofString "len") _) _ _ _) _) _ _); (refine C_bt (by assumption) (by walk_at "gm") (c_len _) ?_))
  | ((show EW _ _ _ _ (eval (Expr.Call (Expr.Name (Str.ofString "str") _) _ _ _) _) _ _); (refine C_bt (by assumption) (by walk_at "gm") (c_str _) ?_))
  | ((show EW _ _ _ _ (eval (Expr.Call (Expr.Name (Str.ofString "min") _) _ _ _) _) _ _); (refine C_bt (by assumption) (by walk_at "gm") (c_min _) ?_))
  | ((show EW _ _ _ _ (eval (Expr.Call (Expr.Name (Str.ofString "range") _) _ _ _) _) _ _); (refine C_bt (by assumption) (by walk_at "gm") (c_range _) ?_))
  | ((show EW _ _ _ _ (eval (Expr.Call (Expr.Name (Str.ofString "chr") _) _ _ _) _) _ _); (refine C_bt (by assumption) (by walk_at "gm") (c_chr _) ?_))
  | ((show EW _ _ _ _ (eval (Expr.Call (Expr.Name (Str.ofString "isinstance") _) _ _ _) _) _ _); (refine C_bt (by assumption) (by walk_at "gm") (c_isinstance _) ?_))
  | ((show EW _ _ _ _ (eval (Expr.Name (Str.ofString "LINE_FEED") _) _) _ _); (refine G_int (by assumption) (by walk_at "gm") (g_LINE_FEED _) ?_))
  | ((show EW _ _ _ _ (eval (Expr.Name (Str.ofString "RETURN") _) _) _ _); (refine G_int (by assumption) (by walk_at "gm") (g_RETURN _) ?_))
  | ((show EW _ _ _ _ (eval (Expr.Name (Str.ofString "COMMENT") _) _) _ _); (refine G_int (by assumption) (by walk_at "gm") (g_COMMENT _) ?_))
  | ((show EW _ _ _ _ (eval (Expr.Name (Str.ofString "MOST_FIGURES_cursor") _) _) _ _); (refine G_int (by assumption) (by walk_at "gm") (g_MOST_FIGURES_cursor _) ?_))
  | ((show EW _ _ _ _ (eval (Expr.Name (Str.ofString "HASH") _) _) _ _); (refine G_int (by assumption) (by walk_at "gm") (g_HASH _) ?_))
  | ((show EW _ _ _ _ (eval (Expr.Name (Str.ofString "PLUS") _) _) _ _); (refine G_int (by assumption) (by walk_at "gm") (g_PLUS _) ?_))
  | ((show EW _ _ _ _ (eval (Expr.Name (Str.ofString "MINUS") _) _) _ _); (refine G_int (by assumption) (by walk_at "gm") (g_MINUS _) ?_))
  | ((show EW _ _ _ _ (eval (Expr.Name (Str.ofString "POINT") _) _) _ _); (refine G_int (by assumption) (by walk_at "gm") (g_POINT _) ?_))
  | ((show EW _ _ _ _ (eval (Expr.Name (Str.ofString "ZERO") _) _) _ _); (refine G_int (by assumption) (by walk_at "gm") (g_ZERO _) ?_))
  | ((show EW _ _ _ _ (eval (Expr.Name (Str.ofString "MOST_FIGURES_decimals") _) _) _ _); (refine G_int (by assumption) (by walk_at "gm") (g_MOST_FIGURES_decimals _) ?_))
  | ((show EW _ _ _ _ (eval (Expr.Name (Str.ofString "SLASH") _) _) _ _); (refine G_int (by assumption) (by walk_at "gm") (g_SLASH _) ?_))
  | ((show EW _ _ _ _ (eval (Expr.Name (Str.ofString "PAREN") _) _) _ _); (refine G_int (by assumption) (by walk_at "gm") (g_PAREN _) ?_))
  | ((show EW _ _ _ _ (eval (Expr.Name (Str.ofString "CLOSE_PAREN") _) _) _ _); (refine G_int (by assumption) (by walk_at "gm") (g_CLOSE_PAREN _) ?_))
  | ((show EW _ _ _ _ (eval (Expr.Name (Str.ofString "LESS") _) _) _ _); (refine G_int (by assumption) (by walk_at "gm") (g_LESS _) ?_))
  | ((show EW _ _ _ _ (eval (Expr.Name (Str.ofString "GREATER") _) _) _ _); (refine G_int (by assumption) (by walk_at "gm") (g_GREATER _) ?_))
  | ((show EW _ _ _ _ (eval (Expr.Name (Str.ofString "WHITE") _) _) _ _); (refine G_ref (by assumption) (by walk_at "gm") (g_WHITE _) ?_))
  | ((show EW _ _ _ _ (eval (Expr.Name (Str.ofString "DELIMITERS") _) _) _ _); (refine G_ref (by assumption) (by walk_at "gm") (g_DELIMITERS _) ?_))
  | ((show EW _ _ _ _ (eval (Expr.Name (Str.ofString "SIGNS") _) _) _ _); (refine G_ref (by assumption) (by walk_at "gm") (g_SIGNS _) ?_))
  | ((show EW _ _ _ _ (eval (Expr.Name (Str.ofString "MOST_DEPTH") _) _) _ _); (refine G_int (by assumption) (by walk_at "gm") (g_MOST_DEPTH _) ?_)))
local macro_rules | `(tactic| walk_at "hm") => `(tactic| first
  | ((show O2 _ _ _ _ (binaryOp Operator.Mult) _ _ _ _); first | (refine O_mul10R ?_) | (refine O_mul10L ?_)))
local macro_rules | `(tactic| walk_at "hs") => `(tactic| first
  | ((show SW _ _ _ _ (execs (Stmt.Raise (some (Expr.Call (Expr.Name (Str.ofString "CrossFault") _) _ _ _)) none _ :: _) _) _ _); (refine K_Cross (by assumption) ?_)))
local macro_rules | `(tactic| walk_at "hr") => `(tactic| first
  | (refine Os_range1 ?_)
  | (refine Os_range2 ?_))
local macro_rules | `(tactic| walk_at "hi") => `(tactic| first
  | refine if_nt ?_
  | refine if_nf ?_)
section BodyR7
def NextS (p : Pm) (l : List UInt8) (cur : Nat) (tok : V) (cur' : Nat) : Prop := ∀ (H : HM) (a d : Addr), CWd p 5 (.ref 385) [.ob 147 a d] (Cu H d l cur) tok (Cu H d l cur')
def PlainS (p : Pm) (l : List UInt8) (i : Int) (cur : Nat) (v : V) (cur' : Nat) : Prop := ∀ (H : HM) (a d : Addr), CWd p 13 (.ref 557) [.ob 147 a d, .int i] (Cu H d l cur) v (Cu H d l cur')
inductive Chain (p : Pm) (l : List UInt8) (fin : List V) : Nat → List V → V → Nat → Nat → Prop
  | close {at_ : V} {cur : Nat} : Chain p l fin 0 fin (.tup [.str "sign", .bytes [62, 62], at_]) cur cur
  | name {m : Nat} {its : List V} {w : Str} {at_ tok' : V} {cur cur' e : Nat} : wk its = true → NextS p l cur tok' cur' → Chain p l fin m (its ++ [.obj 409 ["text"] [.str w]]) tok' cur' e → Chain p l fin (m + 1) its (.tup [.str "name", .str w, at_]) cur e
  | int {m : Nat} {its : List V} {i : Int} {v at_ tok' : V} {cur cur1 cur' e : Nat} : wk its = false → 0 ≤ i → PlainS p l i cur v cur1 → NextS p l cur1 tok' cur' → Chain p l fin m (its ++ [v]) tok' cur' e → Chain p l fin (m + 1) its (.tup [.str "int", .int i, at_]) cur e
theorem Chain.len {p : Pm} {l : List UInt8} {fin its : List V} {m cur e : Nat} {tok : V} (h : Chain p l fin m its tok cur e) : its.length ≤ fin.length := by
  induction h with
  | close => exact Nat.le_refl _
  | name _ _ _ ih => simp at ih; omega
  | int _ _ _ _ _ ih => simp at ih; omega
section
variable {p : Pm} {n : Nat} {c : Cx} {ρ : LM} {H : HM} {X : XQ} {Q : V → HM → Prop} {xs gs : List Str} {a d : Addr} {l : List UInt8} {k : Nat}
abbrev FrS (H : HM) (d LF fa fd LI : Addr) (l : List UInt8) (its : List V) (cur : Nat) : HM := Cu (upd (upd (upd H LF (.list [.ob 539 fa fd])) fd (.flds [("mark", .bytes [60, 60]), ("items", .ref LI)])) LI (.list its)) d l cur
local macro_rules | `(tactic| walk_at "h") => `(tactic| first | exact upd_same .. | assumption | (rw [upd_ne (by first | assumption | (apply Ne.symm; assumption))]; walk_at "h") | (unfold FrS; walk_at "h") | (unfold Cu; walk_at "h"))
theorem object_from_spec {w1 w2 : Str} {v1 v2 at0 tok1 : V} {cur cur1 e m0 : Nat} (hne : w1 ≠ w2) (n1 : v1.isNone = false) (n2 : v2.isNone = false) (c1 : ∀ x, v1 ≠ .con x) (c2 : ∀ x, v2 ≠ .con x)
    (hnx : NextS p l cur tok1 cur1) (ch : Chain p l [.obj 409 ["text"] [.str w1], v1, .obj 409 ["text"] [.str w2], v2] m0 [] tok1 cur1 e) :
    CW p 60 (.ref 591) [.ob 147 a d, .tup [.str "sign", .bytes [60, 60], at0]] (Cu H d l cur) (fun v H' => ∃ D, H D = none ∧ D ≠ d ∧ v = .ref D ∧ H' = Cu (upd H D (.dstr [(w1, v1), (w2, v2)])) d l e) NXc := by
  refine CW.dropped ?_
  refine CW_D (params := ["cursor", "token", "lets_references"]) ["cursor", "token", "lets_references", "frames", "kind", "worth", "at", "is_opening", "value"] ["SyntaxFault", "len", "MOST_DEPTH", "Frame", "close_frame", "plain_value", "next_token", "is_sign"]
    [some (.ob 147 a d), some (.tup [.str "sign", .bytes [60, 60], at0]), some (.bool true), none, none, none, none, none, none] [.bool true] [_] (fun Z => RepVs.cons (.bool _) .nil) (fun us h => match us, h with | [u, v], _ => ⟨_, rfl, rfl⟩) ?_
  intro c F hT hL
  walk_at "W"
  intro LF hLF
  unfold Cu at hLF
  obtain ⟨f1, hHLF⟩ := fresh_of hLF
  walk_at "W"
  rw [show upd (Cu H d l cur) LF (.list []) = Cu (upd H LF (.list [])) d l cur from upd_comm _ _ _ f1.symm]
  refine K_While F (fun m vals H' => (m = m0 + 1 ∧ vals = [some (.ob 147 a d), some (.tup [.str "sign", .bytes [60, 60], at0]), some (.bool true), some (.ref LF), none, none, none, none, none] ∧ H' = Cu (upd H LF (.list [])) d l cur) ∨
      (∃ its tok cu fa fd LI, vals = [some (.ob 147 a d), some tok, some (.bool true), some (.ref LF), none, none, none, none, none] ∧ H' = FrS H d LF fa fd LI l its cu ∧ fd ≠ LF ∧ fd ≠ d ∧ LI ≠ LF ∧ LI ≠ d ∧ LI ≠ fd ∧ H fd = none ∧ H LI = none ∧
        Chain p l [.obj 409 ["text"] [.str w1], v1, .obj 409 ["text"] [.str w2], v2] m its tok cu e)) _ _ (by walk_at "le") (.inl ⟨rfl, rfl, rfl⟩) ?_
  rintro m _ _ (⟨rfl, rfl, rfl⟩ | ⟨its, tok, cu, fa, fd, LI, rfl, rfl, g1, g2, g3, g4, g5, g6, g7, hch⟩)
  · walk_at "W"
    refine if_eq (fun _ => ?_) (fun h => absurd rfl h)
    walk_at "W"
    intro b0 hb0
    have hFb : LF ≠ b0 := ne_of_some (show (Cu (upd H LF (.list [])) d l cur) LF = some (.list []) by walk_at "h") hb0
    refine O_neL0 (vs := []) (by walk_at "h") (upd_same ..) ?_
    refine T_bool ?_
    refine if_nt ?_
    refine SW.drop (Le_upd hb0) ?_
    walk_at "W"
    refine if_dec (fun _ => ?_) (fun h => absurd (by simp) h)
    walk_at "W"
    refine Os_len_list (vs := []) (by walk_at "h") (by decide) ?_
    walk_at "W"
    refine if_eq (fun h => absurd h (by decide)) (fun _ => ?_)
    walk_at "W"
    refine G_append (vs := []) (by walk_at "h") ⟨.builtin, ?_⟩
    walk_at "W"
    refine Os_Frame F (by decide) fun fa fd LI hfd hLI hne2 => ?_
    unfold Cu at hfd hLI
    obtain ⟨j1, hfd⟩ := fresh_of hfd
    obtain ⟨j2, hfd⟩ := fresh_of hfd
    obtain ⟨j3, hLI⟩ := fresh_of hLI
    obtain ⟨j4, hLI⟩ := fresh_of hLI
    walk_at "W"
    refine Os_append (vs := []) (by walk_at "h") (by decide) ?_
    rw [show upd (upd (upd (Cu (upd H LF (.list [])) d l cur) fd (.flds [("mark", .bytes [60, 60]), ("items", .ref LI)])) LI (.list [])) LF (.list ([] ++ [.ob 539 fa fd])) = FrS H d LF fa fd LI l [] cur from by
      unfold FrS Cu
      rw [upd_comm _ _ _ j4, upd_comm _ _ _ j2, upd_comm _ _ _ f1.symm, upd_upd, upd_comm _ _ _ j1.symm, upd_comm _ _ _ j3.symm]; rfl]
    walk_at "W"
    refine F_callE F (hnx _ _ _) (by decide) ?_
    walk_at "W"
    exact Turn.nx (F := F) (vals := [_, _, _, _, none, none, none, none, none]) (by walk_at "le") ⟨_, Nat.lt_succ_self _, .inr ⟨_, _, _, fa, fd, LI, rfl, rfl, j2, j1, j4, j3, hne2, hfd, hLI, ch⟩⟩
  have hlen := hch.len
  have oLF : (FrS H d LF fa fd LI l its cu) LF = some (.list [.ob 539 fa fd]) := by walk_at "h"
  have ofd : (FrS H d LF fa fd LI l its cu) fd = some (.flds [("mark", .bytes [60, 60]), ("items", .ref LI)]) := by walk_at "h"
  have oLI : (FrS H d LF fa fd LI l its cu) LI = some (.list its) := by walk_at "h"
  cases hch with
  | close =>
    have hwk : wk [.obj 409 ["text"] [.str w1], v1, .obj 409 ["text"] [.str w2], v2] = true := (by decide : ((4 : Int).fmod 2 == 0) = true)
    walk_at "W"
    refine if_eq (fun _ => ?_) (fun h => absurd rfl h)
    walk_at "W"
    intro b0 hb0
    refine O_neL0 (vs := [.ob 539 fa fd]) (by rw [upd_ne (ne_of_some oLF hb0)]; exact oLF) (upd_same ..) ?_
    refine T_bool ?_
    refine if_nf ?_
    refine BW.drop (Le_upd hb0) ?_
    walk_at "W"
    refine O_last_list oLF rfl ?_
    refine G_wants ofd fun hk => ⟨hk, ?_⟩
    walk_at "W"
    refine F_callE F (wants_key_spec ofd oLI (by first | (simp at hlen; omega) | simp)) (by decide) ?_
    rw [hwk]
    walk_at "W"
    refine if_ne (fun _ => ?_) (fun h => absurd h (by decide))
    walk_at "W"
    refine F_callE F is_sign_bytes (by decide) ?_
    rw [show (([62, 62] : List UInt8) == [62, 62]) = true from rfl]
    walk_at "W"
    refine if_dec (fun h => absurd h (by simp)) (fun _ => ?_)
    walk_at "W"
    refine if_eq (fun _ => ?_) (fun h => absurd rfl h)
    walk_at "W"
    refine if_dec (fun _ => ?_) (fun h => absurd (by simp) h)
    walk_at "W"
    refine F.call (close_frame_spec hne n1 n2 c1 c2 oLF ofd oLI g1.symm g3.symm) (by decide) ?_ (fun _ _ _ h => h.elim)
    rintro v H' ⟨D, hD, rfl, rfl⟩
    walk_at "W"
    intro b1 hb1
    obtain ⟨q1, hb1'⟩ := fresh_of hb1
    obtain ⟨q2, hb1''⟩ := fresh_of hb1'
    have hDLF : D ≠ LF := fun q => by subst q; rw [oLF] at hD; cases hD
    refine O_eqL0 (vs := []) (by rw [upd_ne q2.symm, upd_ne hDLF.symm]; exact upd_same ..) (upd_same ..) ?_
    refine T_bool ?_
    refine if_t ?_
    refine SW.drop (Le_upd hb1) ?_
    walk_at "W"
    unfold FrS Cu at hD
    obtain ⟨k1, hD⟩ := fresh_of hD
    obtain ⟨k2, hD⟩ := fresh_of hD
    obtain ⟨k3, hD⟩ := fresh_of hD
    obtain ⟨k4, hD⟩ := fresh_of hD
    refine ⟨_, ?_, D, hD, k1, rfl, rfl⟩
    unfold FrS Cu
    rw [upd_comm _ _ _ k1]
    refine LeUpd2 ?_
    rw [upd_comm _ _ _ f1.symm]
    refine LeUpd2 (fun b o hb => ?_)
    rw [upd_ne (ne_of_some hb hHLF), upd_ne (ne_of_some hb g7), upd_ne (ne_of_some hb g6), upd_ne (ne_of_some hb hHLF)]
    exact hb
  | name hwk hnx2 hch2 =>
    walk_at "W"
    refine if_eq (fun h => absurd h (by decide)) (fun _ => ?_)
    walk_at "W"
    intro b0 hb0
    refine O_neL0 (vs := [.ob 539 fa fd]) (by rw [upd_ne (ne_of_some oLF hb0)]; exact oLF) (upd_same ..) ?_
    refine T_bool ?_
    refine if_nf ?_
    refine BW.drop (Le_upd hb0) ?_
    walk_at "W"
    refine O_last_list oLF rfl ?_
    refine G_wants ofd fun hk => ⟨hk, ?_⟩
    walk_at "W"
    refine F_callE F (wants_key_spec ofd oLI (by first | (simp at hlen; omega) | simp)) (by decide) ?_
    rw [hwk]
    walk_at "W"
    refine if_ne (fun h => absurd rfl h) (fun _ => ?_)
    walk_at "W"
    refine if_eq (fun h => absurd h (by decide)) (fun _ => ?_)
    walk_at "W"
    refine if_eq (fun h => absurd h (by decide)) (fun _ => ?_)
    walk_at "W"
    refine F_callE F plain_name (by decide) ?_
    walk_at "W"
    intro b1 hb1
    refine O_eqL0 (vs := [.ob 539 fa fd]) (by rw [upd_ne (ne_of_some (show (FrS H d LF fa fd LI l its cu) LF = some (.list [.ob 539 fa fd]) by walk_at "h") hb1)]; walk_at "h") (upd_same ..) ?_
    refine T_bool ?_
    refine if_f ?_
    refine SW.drop (Le_upd hb1) ?_
    walk_at "W"
    refine O_last_list (vs := [.ob 539 fa fd]) (by walk_at "h") rfl ?_
    refine A_items (show (FrS H d LF fa fd LI l its cu) fd = some (.flds [("mark", .bytes [60, 60]), ("items", .ref LI)]) by walk_at "h") (by intro x h; cases h) ?_
    refine G_append (vs := its) (by walk_at "h") ⟨.builtin, ?_⟩
    walk_at "W"
    refine Os_append (vs := its) (by walk_at "h") (by simp at hlen; omega) ?_
    rw [show ∀ x, upd (FrS H d LF fa fd LI l its cu) LI (.list x) = FrS H d LF fa fd LI l x cu from fun x => by unfold FrS Cu; rw [upd_comm _ _ _ g4.symm, upd_upd]]
    walk_at "W"
    refine F_callE F (hnx2 _ _ _) (by decide) ?_
    walk_at "W"
    exact Turn.nx (F := F) (vals := [_, _, _, _, none, none, none, none, none]) (by walk_at "le") ⟨_, Nat.lt_succ_self _, .inr ⟨_, _, _, fa, fd, LI, rfl, rfl, g1, g2, g3, g4, g5, g6, g7, hch2⟩⟩
  | @int _ _ _ _ _ _ _ cur2 _ _ hwk hi hpl hnx2 hch2 =>
    walk_at "W"
    refine if_eq (fun h => absurd h (by decide)) (fun _ => ?_)
    walk_at "W"
    intro b0 hb0
    refine O_neL0 (vs := [.ob 539 fa fd]) (by rw [upd_ne (ne_of_some oLF hb0)]; exact oLF) (upd_same ..) ?_
    refine T_bool ?_
    refine if_nf ?_
    refine BW.drop (Le_upd hb0) ?_
    walk_at "W"
    refine O_last_list oLF rfl ?_
    refine G_wants ofd fun hk => ⟨hk, ?_⟩
    walk_at "W"
    refine F_callE F (wants_key_spec ofd oLI (by first | (simp at hlen; omega) | simp)) (by decide) ?_
    rw [hwk]
    walk_at "W"
    refine if_eq (fun h => absurd h (by decide)) (fun _ => ?_)
    walk_at "W"
    refine if_eq (fun h => absurd h (by decide)) (fun _ => ?_)
    walk_at "W"
    refine F_callE F (plain_int hi (Nat.le_refl _) (hpl _ _ _)) (by decide) ?_
    walk_at "W"
    intro b1 hb1
    refine O_eqL0 (vs := [.ob 539 fa fd]) (by rw [upd_ne (ne_of_some (show (FrS H d LF fa fd LI l its cur2) LF = some (.list [.ob 539 fa fd]) by walk_at "h") hb1)]; walk_at "h") (upd_same ..) ?_
    refine T_bool ?_
    refine if_f ?_
    refine SW.drop (Le_upd hb1) ?_
    walk_at "W"
    refine O_last_list (vs := [.ob 539 fa fd]) (by walk_at "h") rfl ?_
    refine A_items (show (FrS H d LF fa fd LI l its cur2) fd = some (.flds [("mark", .bytes [60, 60]), ("items", .ref LI)]) by walk_at "h") (by intro x h; cases h) ?_
    refine G_append (vs := its) (by walk_at "h") ⟨.builtin, ?_⟩
    walk_at "W"
    refine Os_append (vs := its) (by walk_at "h") (by simp at hlen; omega) ?_
    rw [show ∀ x, upd (FrS H d LF fa fd LI l its cur2) LI (.list x) = FrS H d LF fa fd LI l x cur2 from fun x => by unfold FrS Cu; rw [upd_comm _ _ _ g4.symm, upd_upd]]
    walk_at "W"
    refine F_callE F (hnx2 _ _ _) (by decide) ?_
    walk_at "W"
    exact Turn.nx (F := F) (vals := [_, _, _, _, none, none, none, none, none]) (by walk_at "le") ⟨_, Nat.lt_succ_self _, .inr ⟨_, _, _, fa, fd, LI, rfl, rfl, g1, g2, g3, g4, g5, g6, g7, hch2⟩⟩
end
end BodyR7
end Group11
section Group12
local macro_rules | `(tactic| walk_at "hv") => `(tactic| first
  | ((show EW _ _ _ _ (eval (Expr.Call (Expr.Name (Str.ofString "CrossFault") _) _ _ _) _) _ _); (refine C_fn (by assumption) (by walk_at "gm") (c_CrossFault _) ?_))
  | ((show EW _ _ _ _ (eval (Expr.Call (Expr.Name (Str.ofString "Cursor") _) _ _ _) _) _ _); (refine C_fn (by assumption) (by walk_at "gm") (c_Cursor _) ?_))
  | ((show EW _ _ _ _ (eval (Expr.Call (Expr.Name (Str.ofString "Entry") _) _ _ _) _) _ _); (refine C_fn (by assumption) (by walk_at "gm") (c_Entry _) ?_))
  | ((show EW _ _ _ _ (eval (Expr.Call (Expr.Name (Str.ofString "Name") _) _ _ _) _) _ _); (refine C_fn (by assumption) (by walk_at "gm") (c_Name _) ?_))
  | ((show EW _ _ _ _ (eval (Expr.Call (Expr.Name (Str.ofString "Reference") _) _ _ _) _) _ _); (refine C_fn (by assumption) (by walk_at "gm") (c_Reference _) ?_))
  | ((show EW _ _ _ _ (eval (Expr.Call (Expr.Name (Str.ofString "Frame") _) _ _ _) _) _ _); (refine C_fn (by assumption) (by walk_at "gm") (c_Frame _) ?_))
  | ((show EW _ _ _ _ (eval (Expr.Call (Expr.Name (Str.ofString "is_regular") _) _ _ _) _) _ _); (refine C_fn (by assumption) (by walk_at "gm") (c_is_regular _) ?_))
  | ((show EW _ _ _ _ (eval (Expr.Call (Expr.Name (Str.ofString "is_figure") _) _ _ _) _) _ _); (refine C_fn (by assumption) (by walk_at "gm") (c_is_figure _) ?_))
  | ((show EW _ _ _ _ (eval (Expr.Call (Expr.Name (Str.ofString "name_text") _) _ _ _) _) _ _); (refine C_fn (by assumption) (by walk_at "gm") (c_name_text _) ?_))
  | ((show EW _ _ _ _ (eval (Expr.Call (Expr.Name (Str.ofString "read_decimal") _) _ _ _) _) _ _); (refine C_fn (by assumption) (by walk_at "gm") (c_read_decimal _) ?_))
  | ((show EW _ _ _ _ (eval (Expr.Call (Expr.Name (Str.ofString "run_token") _) _ _ _) _) _ _); (refine C_fn (by assumption) (by walk_at "gm") (c_run_token _) ?_))
  | ((show EW _ _ _ _ (eval (Expr.Call (Expr.Name (Str.ofString "delimited_token") _) _ _ _) _) _ _); (refine C_fn (by assumption) (by walk_at "gm") (c_delimited_token _) ?_))
  | ((show EW _ _ _ _ (eval (Expr.Call (Expr.Name (Str.ofString "next_token") _) _ _ _) _) _ _); (refine C_fn (by assumption) (by walk_at "gm") (c_next_token _) ?_))
  | ((show EW _ _ _ _ (eval (Expr.Call (Expr.Name (Str.ofString "is_sign") _) _ _ _) _) _ _); (refine C_fn (by assumption) (by walk_at "gm") (c_is_sign _) ?_))
  | ((show EW _ _ _ _ (eval (Expr.Call (Expr.Name (Str.ofString "is_whole") _) _ _ _) _) _ _); (refine C_fn (by assumption) (by walk_at "gm") (c_is_whole _) ?_))
  | ((show EW _ _ _ _ (eval (Expr.Call (Expr.Name (Str.ofString "take_reference") _) _ _ _) _) _ _); (refine C_fn (by assumption) (by walk_at "gm") (c_take_reference _) ?_))
  | ((show EW _ _ _ _ (eval (Expr.Call (Expr.Name (Str.ofString "plain_value") _) _ _ _) _) _ _); (refine C_fn (by assumption) (by walk_at "gm") (c_plain_value _) ?_))
  | ((show EW _ _ _ _ (eval (Expr.Call (Expr.Name (Str.ofString "dict_of") _) _ _ _) _) _ _); (refine C_fn (by assumption) (by walk_at "gm") (c_dict_of _) ?_))
  | ((show EW _ _ _ _ (eval (Expr.Call (Expr.Name (Str.ofString "close_frame") _) _ _ _) _) _ _); (refine C_fn (by assumption) (by walk_at "gm") (c_close_frame _) ?_))
  | ((show EW _ _ _ _ (eval (Expr.Call (Expr.Name (Str.ofString "object_from") _) _ _ _) _) _ _); (refine C_fn (by assumption) (by walk_at "gm") (c_object_from _) ?_))
  | ((show EW _ _ _ _ (eval (Expr.Call (Expr.Name (Str.ofString "read_object") _) _ _ _) _) _ _); (refine C_fn (by assumption) (by walk_at "gm") (c_read_object _) ?_))
  | ((show EW _ _ _ _ (eval (Expr.Call (Expr.Name (Str.ofString "take_subsection") _) _ _ _) _) _ _); (refine C_fn (by assumption) (by walk_at "gm") (c_take_subsection _) ?_))
  | ((show EW _ _ _ _ (eval (Expr.Call (Expr.Name (Str.ofString "take_trailer") _) _ _ _) _) _ _); (refine C_fn (by assumption) (by walk_at "gm") (c_take_trailer _) ?_))
  | ((show EW _ _ _ _ (eval (Expr.Call (Expr.Name (Str.ofString "len") _) _ _ _) _) _ _); (refine C_bt (by assumption) (by walk_at "gm") (c_len _) ?_))
  | ((show EW _ _ _ _ (eval (Expr.Call (Expr.Name (Str.ofString "str") _) _ _ _) _) _ _); (refine C_bt (by assumption) (by walk_at "gm") (c_str _) ?_))
  | ((show EW _ _ _ _ (eval (Expr.Call (Expr.Name (Str.ofString "min") _) _ _ _) _) _ _); (refine C_bt (by assumption) (by walk_at "gm") (c_min _) ?_))
  | ((show EW _ _ _ _ (eval (Expr.Call (Expr.Name (Str.ofString "range") _) _ _ _) _) _ _); (refine C_bt (by assumption) (by walk_at "gm") (c_range _) ?_))
  | ((show EW _ _ _ _ (eval (Expr.Call (Expr.Name (Str.ofString "chr") _) _ _ _) _) _ _); (refine C_bt (by assumption) (by walk_at "gm") (c_chr _) ?_))
  | ((show EW _ _ _ _ (eval (Expr.Call (Expr.Name (Str.ofString "isinstance") _) _ _ _) _) _ _); (refine C_bt (by assumption) (by walk_at "gm") (c_isinstance _) ?_))
  | ((show EW _ _ _ _ (eval (Expr.Name (Str.ofString "LINE_FEED") _) _) _ _); (refine G_int (by assumption) (by walk_at "gm") (g_LINE_FEED _) ?_))
  | ((show EW _ _ _ _ (eval (Expr.Name (Str.ofString "RETURN") _) _) _ _); (refine G_int (by assumption) (by walk_at "gm") (g_RETURN _) ?_))
  | ((show EW _ _ _ _ (eval (Expr.Name (Str.ofString "COMMENT") _) _) _ _); (refine G_int (by assumption) (by walk_at "gm") (g_COMMENT _) ?_))
  | ((show EW _ _ _ _ (eval (Expr.Name (Str.ofString "MOST_FIGURES_cursor") _) _) _ _); (refine G_int (by assumption) (by walk_at "gm") (g_MOST_FIGURES_cursor _) ?_))
  | ((show EW _ _ _ _ (eval (Expr.Name (Str.ofString "HASH") _) _) _ _); (refine G_int (by assumption) (by walk_at "gm") (g_HASH _) ?_))
  | ((show EW _ _ _ _ (eval (Expr.Name (Str.ofString "PLUS") _) _) _ _); (refine G_int (by assumption) (by walk_at "gm") (g_PLUS _) ?_))
  | ((show EW _ _ _ _ (eval (Expr.Name (Str.ofString "MINUS") _) _) _ _); (refine G_int (by assumption) (by walk_at "gm") (g_MINUS _) ?_))
  | ((show EW _ _ _ _ (eval (Expr.Name (Str.ofString "POINT") _) _) _ _); (refine G_int (by assumption) (by walk_at "gm") (g_POINT _) ?_))
  | ((show EW _ _ _ _ (eval (Expr.Name (Str.ofString "ZERO") _) _) _ _); (refine G_int (by assumption) (by walk_at "gm") (g_ZERO _) ?_))
  | ((show EW _ _ _ _ (eval (Expr.Name (Str.ofString "MOST_FIGURES_decimals") _) _) _ _); (refine G_int (by assumption) (by walk_at "gm") (g_MOST_FIGURES_decimals _) ?_))
  | ((show EW _ _ _ _ (eval (Expr.Name (Str.ofString "SLASH") _) _) _ _); (refine G_int (by assumption) (by walk_at "gm") (g_SLASH _) ?_))
  | ((show EW _ _ _ _ (eval (Expr.Name (Str.ofString "PAREN") _) _) _ _); (refine G_int (by assumption) (by walk_at "gm") (g_PAREN _) ?_))
  | ((show EW _ _ _ _ (eval (Expr.Name (Str.ofString "CLOSE_PAREN") _) _) _ _); (refine G_int (by assumption) (by walk_at "gm") (g_CLOSE_PAREN _) ?_))
  | ((show EW _ _ _ _ (eval (Expr.Name (Str.ofString "LESS") _) _) _ _); (refine G_int (by assumption) (by walk_at "gm") (g_LESS _) ?_))
  | ((show EW _ _ _ _ (eval (Expr.Name (Str.ofString "GREATER") _) _) _ _); (refine G_int (by assumption) (by walk_at "gm") (g_GREATER _) ?_))
  | ((show EW _ _ _ _ (eval (Expr.Name (Str.ofString "WHITE") _) _) _ _); (refine G_ref (by assumption) (by walk_at "gm") (g_WHITE _) ?_))
  | ((show EW _ _ _ _ (eval (Expr.Name (Str.ofString "DELIMITERS") _) _) _ _); (refine G_ref (by assumption) (by walk_at "gm") (g_DELIMITERS _) ?_))
  | ((show EW _ _ _ _ (eval (Expr.Name (Str.ofString "SIGNS") _) _) _ _); (refine G_ref (by assumption) (by walk_at "gm") (g_SIGNS _) ?_))
  | ((show EW _ _ _ _ (eval (Expr.Name (Str.ofString "MOST_DEPTH") _) _) _ _); (refine G_int (by assumption) (by walk_at "gm") (g_MOST_DEPTH _) ?_)))
local macro_rules | `(tactic| walk_at "hm") => `(tactic| first
  | ((show O2 _ _ _ _ (binaryOp Operator.Mult) _ _ _ _); first | (refine O_mul10R ?_) | (refine O_mul10L ?_)))
local macro_rules | `(tactic| walk_at "hs") => `(tactic| first
  | ((show SW _ _ _ _ (execs (Stmt.Raise (some (Expr.Call (Expr.Name (Str.ofString "CrossFault") _) _ _ _)) none _ :: _) _) _ _); (refine K_Cross (by assumption) ?_)))
local macro_rules | `(tactic| walk_at "hr") => `(tactic| first
  | (refine Os_range1 ?_)
  | (refine Os_range2 ?_))
local macro_rules | `(tactic| walk_at "hi") => `(tactic| first
  | refine if_nt ?_
  | refine if_nf ?_)
section BodyR8
local macro_rules | `(tactic| walk_at "h") => `(tactic| first | exact upd_same .. | assumption | (rw [upd_ne (by first | assumption | (apply Ne.symm; assumption))]; walk_at "h") | (unfold Cu; walk_at "h"))
def TailOK (p : Pm) (l : List UInt8) (k : Nat) (w1 w2 : Str) (v1 v2 : V) : Prop :=
  w1 ≠ w2 ∧ v1.isNone = false ∧ v2.isNone = false ∧ (∀ x, v1 ≠ .con x) ∧ (∀ x, v2 ≠ .con x) ∧ ∃ at0 k1 tok1 k2 m e, NextS p l (ws l k) (.tup [.str "sign", .bytes [60, 60], at0]) k1 ∧ NextS p l k1 tok1 k2 ∧ Chain p l [.obj 409 ["text"] [.str w1], v1, .obj 409 ["text"] [.str w2], v2] m [] tok1 k2 e
def XH (H : HM) (d : Addr) (k : Nat) : Addr → LM → HM → Prop := fun C fs H' => C = 201 ∧ (∃ w, fs = ([("what", .str w), ("at", .int (k : Int))] : List (Str × V))) ∧ (H d = none → Le H H')
theorem XF.toH {H H0 : HM} {d : Addr} {l : List UInt8} {k : Nat} {C : Addr} {fs : LM} {H' : HM} (h : XF H0 d l k C fs H') (hle : Le H H0) : XH H d k C fs H' := by
  obtain ⟨h1, h2, j, rfl⟩ := h
  refine ⟨h1, h2, fun hd b o e => ?_⟩
  unfold Cu
  rw [upd_ne (ne_of_some e hd)]; exact hle b o e
theorem XG.toH {H : HM} {E d : Addr} {l : List UInt8} {k : Nat} {C : Addr} {fs : LM} {H' : HM} (h : XG H E d l k C fs H') (hE : H E = none) : XH H d k C fs H' := by
  obtain ⟨h1, h2, j, es, rfl⟩ := h
  refine ⟨h1, h2, fun hd b o e => ?_⟩
  unfold Cu
  rw [upd_ne (ne_of_some e hd), upd_ne (ne_of_some e hE)]; exact e
section
variable {p : Pm} {H : HM} {a d : Addr} {l : List UInt8} {k : Nat} {w1 w2 : Str} {v1 v2 : V}
theorem take_trailer_spec (hl : l.length ≤ 16777216) (hT : TailOK p l k w1 w2 v1 v2) {Xc : Addr → LM → HM → Prop} : CW p 80 (.ref 790) [.ob 147 a d] (Cu H d l k)
    (fun v H' => ∃ D e, H D = none ∧ D ≠ d ∧ v = .ref D ∧ H' = Cu (upd H D (.fdstr [(w1, v1), (w2, v2)])) d l e) Xc := by
  obtain ⟨hne, n1, n2, c1, c2, at0, k1, tok1, k2, m, e, hop, hnx, ch⟩ := hT
  have rd : ∀ H, CW p 70 (.ref 598) [.ob 147 a d] (Cu H d l (ws l k)) (fun v H' => ∃ D, H D = none ∧ D ≠ d ∧ v = .ref D ∧ H' = Cu (upd H D (.dstr [(w1, v1), (w2, v2)])) d l e) NXc := fun H => by
    refine CW_0 (params := ["cursor"]) ["cursor"] ["object_from", "next_token"] [some (.ob 147 a d)] (fun us h => match us, h with | [u], _ => rfl) ?_
    intro c F hTp hL
    walk_at "W"
    refine F_callE F (hop _ _ _) (by decide) ?_
    walk_at "W"
    refine F.call (object_from_spec hne n1 n2 c1 c2 hnx ch) (by decide) ?_ (fun _ _ _ h => h.elim)
    rintro v H' ⟨D, hD, hDd, rfl, rfl⟩
    exact ⟨D, hD, hDd, rfl, rfl⟩
  refine CW_0 (params := ["cursor"]) ["cursor", "place", "found", "fault"] ["read_object", "SyntaxFault", "CrossFault", "isinstance", "dict"] [some (.ob 147 a d), none, none, none] (fun us h => match us, h with | [u], _ => rfl) ?_
  intro c F hTp hL
  walk_at "W"
  refine F_callE F (skip_white_spec hl) (by decide) ?_
  walk_at "W"
  refine K_TryOk ?_
  walk_at "W"
  refine F.call (rd H) (by decide) ?_ (fun _ _ _ h => h.elim)
  rintro v H' ⟨D, hD, hDd, rfl, rfl⟩
  walk_at "W"
  refine EW.frz (E := D) (o := .fdstr [(w1, v1), (w2, v2)]) (.inr (.inl ⟨_, by walk_at "h", rfl⟩)) ?_
  rw [show upd (Cu (upd H D (.dstr [(w1, v1), (w2, v2)])) d l e) D (.fdstr [(w1, v1), (w2, v2)]) = Cu (upd H D (.fdstr [(w1, v1), (w2, v2)])) d l e by unfold Cu; rw [upd_comm _ _ _ hDd.symm, upd_upd]]
  walk_at "W"
  refine B_ F (by walk_at "gm") (c_dict p).no (c_dict p).val ?_
  walk_at "W"
  refine Is_dict_dict (es := [(w1, v1), (w2, v2)]) (by walk_at "h") ?_
  walk_at "W"
  exact ⟨D, e, hD, hDd, rfl, rfl⟩
theorem read_classic_spec (hl : l.length ≤ 16000000) (hT : ∀ T k, readR id l = .ok (T, k) → TailOK p l (k + 7) w1 w2 v1 v2) : CW p 120 (.ref 797) [.ob 147 a d] (Cu H d l 0)
    (fun v H' => ∃ T k E D e, readR id l = .ok (T, k) ∧ H E = none ∧ E ≠ d ∧ H D = none ∧ D ≠ d ∧ D ≠ E ∧ v = .tup [.ref E, .ref D] ∧ H' = Cu (upd (upd H E (.dint (dT T))) D (.fdstr [(w1, v1), (w2, v2)])) d l e)
    (fun C fs H' => ∃ k, readR id l = .error k ∧ XH H d k C fs H') := by
  have hl' : l.length ≤ 16777216 := by omega
  refine CW_0 (params := ["cursor"]) ["cursor", "entries"] ["CrossFault", "is_figure", "take_subsection", "take_trailer"] [some (.ob 147 a d), none] (fun us h => match us, h with | [u], _ => rfl) ?_
  intro c F hTp hL
  have hw0 := ws_le l 0 (Nat.zero_le _)
  walk_at "W"
  refine F_callE F (skip_white_spec hl') (by decide) ?_
  walk_at "W"
  refine F_callE F (skip_spec hl' hw0 (by decide)) (by decide) ?_
  walk_at "W"
  refine if_nb (fun h => ?_) (fun h => ?_)
  · rw [h]
    walk_at "W"
    refine Os_cross F (by decide) ?_
    exact ⟨ws l 0, by rw [readR, if_neg (by rw [h]; decide)], XF.toH (H0 := H) ⟨rfl, ⟨_, rfl⟩, _, rfl⟩ (Le.refl _)⟩
  rw [h]
  simp only [if_true]
  have h4 := isAt_le h (by simp)
  have hw4 := ws_le l _ h4
  have hRd : readR id l = tabR id l (l.length + 1) [] (ws l (ws l 0 + 4)) := by rw [readR, if_pos h]
  walk_at "W"
  refine E_Dict0I fun E hE => ?_
  unfold Cu at hE
  obtain ⟨hEd, hHE⟩ := fresh_of hE
  rw [show upd (Cu H d l (ws l 0 + ([120, 114, 101, 102] : List UInt8).length)) E (.dint []) = Cu (upd H E (.dint (dT []))) d l (ws l 0 + 4) from upd_comm _ _ _ hEd.symm]
  walk_at "W"
  refine F_callE F (skip_white_spec hl') (by decide) ?_
  walk_at "W"
  refine K_While F (fun mm vals H' => ∃ m T k, vals = [some (.ob 147 a d), some (.ref E)] ∧ H' = Cu (upd H E (.dint (dT T))) d l k ∧ readR id l = tabR id l m T k ∧ T.length ≤ k ∧ k ≤ l.length ∧ l.length < m + k ∧ mm = l.length - k) _ _ (by walk_at "le") ⟨l.length + 1, [], _, rfl, rfl, hRd, Nat.zero_le _, hw4, by omega, rfl⟩ ?_
  rintro mm _ _ ⟨m, T, k, rfl, rfl, e0, hTk, hk, hm, rfl⟩
  obtain ⟨m, rfl⟩ : ∃ m', m = m' + 1 := ⟨m - 1, by omega⟩
  rw [tabR] at e0
  walk_at "W"
  refine F_callE F (peek0_spec hl') (by decide) ?_
  walk_at "W"
  refine F_callE F is_figure_spec (by decide) ?_
  walk_at "W"
  refine if_b (fun h => ?_) (fun h => ?_)
  · rw [if_pos h] at e0
    walk_at "W"
    refine F.call (take_subsection_spec hl hk hEd hTk) (by decide) ?_ ?_
    case refine_2 =>
      rintro C fs H' ⟨j, h1, h2⟩
      exact ⟨j, by rw [e0, h1], h2.toH hHE⟩
    rintro v H' ⟨T', j, h1, h2, rfl, rfl⟩
    have g1 := secR_ge h1 hk
    have g2 := ws_ge l j
    have g3 := ws_le l j g1.2
    walk_at "W"
    refine F_callE F (skip_white_spec hl') (by decide) ?_
    walk_at "W"
    refine Turn.nx (F := F) (by walk_at "le") ⟨_, ?_, m, T', _, rfl, rfl, by rw [e0, h1], by omega, g3, by omega, rfl⟩
    have := (fig_pk h).1
    omega
  · rw [if_neg (by rw [h]; decide)] at e0
    walk_at "W"
    refine F_callE F (skip_spec hl' hk (by decide)) (by decide) ?_
    walk_at "W"
    refine if_nb (fun h2 => ?_) (fun h2 => ?_)
    · rw [if_neg (by rw [h2]; decide)] at e0
      rw [h2]
      walk_at "W"
      refine Os_cross F (by decide) ?_
      exact ⟨k, e0, XF.toH (H0 := upd H E (.dint (dT T))) ⟨rfl, ⟨_, rfl⟩, _, rfl⟩ (Le_fresh hHE)⟩
    · rw [if_pos h2] at e0
      rw [h2]
      simp only [if_true]
      walk_at "W"
      refine F.call (take_trailer_spec hl' (hT T k e0)) (by decide) ?_ (fun C fs H' h => h)
      rintro v H' ⟨D, e, hD, hDd, rfl, rfl⟩
      obtain ⟨hDE, hHD⟩ := fresh_of hD
      walk_at "W"
      exact ⟨T, k, E, D, e, e0, hHE, hEd, hHD, hDd, hDE, rfl, rfl⟩
end
end BodyR8
end Group12
section BodyN2
theorem B_b {p : Pm} {n : Nat} {c : Cx} {xs gs : List Str} {vals : List (Option V)} {H : HM} {Q : V → HM → Prop} {X : XQ} (F : Fn p n c xs gs) {x : Str} {pos : Pos} {v : Value} (hg : x ∈ gs) (hb : Built p x v) (h : Q (.con v) H) :
    EW p c (loc xs vals) H (eval (.Name x pos) c.env) Q X := B_ F hg hb.no hb.val h
theorem g_Decimal (p : Pm) : GRef p "Decimal" 297 := by unfold GRef; k_is
theorem g_Name (p : Pm) : GRef p "Name" 409 := by unfold GRef; k_is
theorem g_String (p : Pm) : GRef p "String" 431 := by unfold GRef; k_is
theorem g_Stream (p : Pm) : GRef p "Stream" 452 := by unfold GRef; k_is
theorem g_Reference (p : Pm) : GRef p "Reference" 480 := by unfold GRef; k_is
theorem ois_480 (p : Pm) : ObjIs p 480 := by constructor <;> k_is
theorem dn_297 (p : Pm) : isNotIn (Mine.hd.heap_39 p.w.params) "dict" 297 = true := by k_not
theorem dn_409 (p : Pm) : isNotIn (Mine.hd.heap_39 p.w.params) "dict" 409 = true := by k_not
theorem dn_431 (p : Pm) : isNotIn (Mine.hd.heap_39 p.w.params) "dict" 431 = true := by k_not
theorem rn_297 (p : Pm) : kin_not (Mine.hd.heap_39 p.w.params) 480 297 = true := by kin_no
theorem rn_409 (p : Pm) : kin_not (Mine.hd.heap_39 p.w.params) 480 409 = true := by kin_no
theorem rn_431 (p : Pm) : kin_not (Mine.hd.heap_39 p.w.params) 480 431 = true := by kin_no
theorem rn_452 (p : Pm) : kin_not (Mine.hd.heap_39 p.w.params) 480 452 = true := by kin_no
theorem rt_bool (p : Pm) : kin_notT (Mine.hd.heap_39 p.w.params) 480 "bool" = true := by kin_no
theorem rt_int (p : Pm) : kin_notT (Mine.hd.heap_39 p.w.params) 480 "int" = true := by kin_no
theorem rt_list (p : Pm) : kin_notT (Mine.hd.heap_39 p.w.params) 480 "list" = true := by kin_no
theorem rt_dict (p : Pm) : kin_notT (Mine.hd.heap_39 p.w.params) 480 "dict" = true := by kin_no
theorem ry_480 (p : Pm) : isIn (Mine.hd.heap_39 p.w.params) (.ref 480) 480 = true := by k_is
theorem tt_bool : typeOf (.type "bool") = pure (.type "type") := by kernel_rfl
theorem tt_int : typeOf (.type "int") = pure (.type "type") := by kernel_rfl
theorem tt_list : typeOf (.type "list") = pure (.type "type") := by kernel_rfl
theorem tt_dict : typeOf (.type "dict") = pure (.type "type") := by kernel_rfl
end BodyN2
section Group13
local macro_rules | `(tactic| walk_at "hv") => `(tactic| first
  | ((show EW _ _ _ _ (eval (Expr.Call (Expr.Name (Str.ofString "len") _) _ _ _) _) _ _); (refine C_bt (by assumption) (by walk_at "gm") (c_len _) ?_))
  | ((show EW _ _ _ _ (eval (Expr.Call (Expr.Name (Str.ofString "isinstance") _) _ _ _) _) _ _); (refine C_bt (by assumption) (by walk_at "gm") (c_isinstance _) ?_))
  | ((show EW _ _ _ _ (eval (Expr.Name (Str.ofString "bool") _) _) _ _); (refine B_b (by assumption) (by walk_at "gm") (c_bool _) ?_))
  | ((show EW _ _ _ _ (eval (Expr.Name (Str.ofString "int") _) _) _ _); (refine B_b (by assumption) (by walk_at "gm") (c_int _) ?_))
  | ((show EW _ _ _ _ (eval (Expr.Name (Str.ofString "list") _) _) _ _); (refine B_b (by assumption) (by walk_at "gm") (c_list _) ?_))
  | ((show EW _ _ _ _ (eval (Expr.Name (Str.ofString "dict") _) _) _ _); (refine B_b (by assumption) (by walk_at "gm") (c_dict _) ?_))
  | ((show EW _ _ _ _ (eval (Expr.Name (Str.ofString "Decimal") _) _) _ _); (refine G_ref (by assumption) (by walk_at "gm") (g_Decimal _) ?_))
  | ((show EW _ _ _ _ (eval (Expr.Name (Str.ofString "Name") _) _) _ _); (refine G_ref (by assumption) (by walk_at "gm") (g_Name _) ?_))
  | ((show EW _ _ _ _ (eval (Expr.Name (Str.ofString "String") _) _) _ _); (refine G_ref (by assumption) (by walk_at "gm") (g_String _) ?_))
  | ((show EW _ _ _ _ (eval (Expr.Name (Str.ofString "Stream") _) _) _ _); (refine G_ref (by assumption) (by walk_at "gm") (g_Stream _) ?_))
  | ((show EW _ _ _ _ (eval (Expr.Name (Str.ofString "Reference") _) _) _ _); (refine G_ref (by assumption) (by walk_at "gm") (g_Reference _) ?_))
  | ((show EW _ _ _ _ (eval (Expr.Name (Str.ofString "WHITE") _) _) _ _); (refine G_ref (by assumption) (by walk_at "gm") (g_WHITE _) ?_))
  | ((show EW _ _ _ _ (eval (Expr.Name (Str.ofString "DELIMITERS") _) _) _ _); (refine G_ref (by assumption) (by walk_at "gm") (g_DELIMITERS _) ?_))
  | ((show EW _ _ _ _ (eval (Expr.Name (Str.ofString "SIGNS") _) _) _ _); (refine G_ref (by assumption) (by walk_at "gm") (g_SIGNS _) ?_)))
local macro_rules | `(tactic| walk_at "hi") => `(tactic| first
  | refine if_nt ?_
  | refine if_nf ?_)
section BodyW1
local macro_rules | `(tactic| walk_at "os") => `(tactic| first
  | refine Is_int_bool ?_ | refine Is_int_int ?_
  | refine Is_dict_bool (by assumption) ?_ | refine Is_dict_int (by assumption) ?_ | refine Is_dict_list (by assumption) ?_ | refine Is_dict_dict (by assumption) ?_
  | refine Is_dict_own (by assumption) (dn_297 _) ?_ | refine Is_dict_own (by assumption) (dn_409 _) ?_ | refine Is_dict_own (by assumption) (dn_431 _) ?_
  | refine Is_obj_T (ois_480 _) (rt_bool _) tt_bool ?_ | refine Is_obj_T (ois_480 _) (rt_int _) tt_int ?_ | refine Is_obj_T (ois_480 _) (rt_list _) tt_list ?_ | refine Is_obj_T (ois_480 _) (rt_dict _) tt_dict ?_
  | refine Is_obj_own (ois_480 _) (rn_297 _) ?_ | refine Is_obj_own (ois_480 _) (rn_409 _) ?_ | refine Is_obj_own (ois_480 _) (rn_431 _) ?_ | refine Is_obj_own (ois_480 _) (rn_452 _) ?_
  | refine Is_obj_yes (ry_480 _) ?_)
section
variable {p : Pm} {H : HM} {a d t : Addr}
theorem kind_int {i : Int} : CWd p 1 (.ref 491) [.int i] H (.str "int") H := by
  refine CW_0 (params := ["value"]) ["value"] ["isinstance", "bool", "int", "Decimal", "Name", "String", "list", "dict", "Stream", "Reference", "PaperError"] [some (.int i)] (fun us h => match us, h with | [u], _ => rfl) ?_
  intro c F hT hL
  walk_at "W"
  refine O_is_none (by intro x h; cases h) ?_
  walk_at "W"
  refine if_f ?_
  walk_at "W"
  exact ⟨rfl, rfl⟩
theorem kind_dict {es : List (Str × V)} (ht : H t = some (.fdstr es)) : CWd p 1 (.ref 491) [.ref t] H (.str "dict") H := by
  refine CW_0 (params := ["value"]) ["value"] ["isinstance", "bool", "int", "Decimal", "Name", "String", "list", "dict", "Stream", "Reference", "PaperError"] [some (.ref t)] (fun us h => match us, h with | [u], _ => rfl) ?_
  intro c F hT hL
  walk_at "W"
  refine O_is_none (by intro x h; cases h) ?_
  walk_at "W"
  refine if_f ?_
  walk_at "W"
  exact ⟨rfl, rfl⟩
theorem kind_ref {x y : V} : CWd p 1 (.ref 491) [.obj 480 ["number", "generation"] [x, y]] H (.str "ref") H := by
  refine CW_0 (params := ["value"]) ["value"] ["isinstance", "bool", "int", "Decimal", "Name", "String", "list", "dict", "Stream", "Reference", "PaperError"] [some (.obj 480 ["number", "generation"] [x, y])] (fun us h => match us, h with | [u], _ => rfl) ?_
  intro c F hT hL
  walk_at "W"
  refine O_is_none (by intro x h; cases h) ?_
  walk_at "W"
  refine if_f ?_
  walk_at "W"
  exact ⟨rfl, rfl⟩
end
end BodyW1
end Group13
section Group14
local macro_rules | `(tactic| walk_at "hv") => `(tactic| first
  | ((show EW _ _ _ _ (eval (Expr.Call (Expr.Name (Str.ofString "PaperError") _) _ _ _) _) _ _); (refine C_fn (by assumption) (by walk_at "gm") (c_PaperError _) ?_))
  | ((show EW _ _ _ _ (eval (Expr.Call (Expr.Name (Str.ofString "text_octets") _) _ _ _) _) _ _); (refine C_fn (by assumption) (by walk_at "gm") (c_text_octets _) ?_))
  | ((show EW _ _ _ _ (eval (Expr.Call (Expr.Name (Str.ofString "len") _) _ _ _) _) _ _); (refine C_bt (by assumption) (by walk_at "gm") (c_len _) ?_))
  | ((show EW _ _ _ _ (eval (Expr.Call (Expr.Name (Str.ofString "str") _) _ _ _) _) _ _); (refine C_bt (by assumption) (by walk_at "gm") (c_str _) ?_))
  | ((show EW _ _ _ _ (eval (Expr.Call (Expr.Name (Str.ofString "abs") _) _ _ _) _) _ _); (refine C_bt (by assumption) (by walk_at "gm") (c_abs _) ?_))
  | ((show EW _ _ _ _ (eval (Expr.Call (Expr.Name (Str.ofString "bytes") _) _ _ _) _) _ _); (refine C_bt (by assumption) (by walk_at "gm") (c_bytes _) ?_))
  | ((show EW _ _ _ _ (eval (Expr.Call (Expr.Name (Str.ofString "ord") _) _ _ _) _) _ _); (refine C_bt (by assumption) (by walk_at "gm") (c_ord _) ?_))
  | ((show EW _ _ _ _ (eval (Expr.Name (Str.ofString "MOST_NUMBER") _) _) _ _); (refine G_int (by assumption) (by walk_at "gm") (g_MOST_NUMBER _) ?_)))
local macro_rules | `(tactic| walk_at "hi") => `(tactic| first
  | refine if_nt ?_
  | refine if_nf ?_)
section BodyW2
section
variable {p : Pm} {H : HM}
theorem text_octets_spec {ks : List Nat} (hk : ∀ k ∈ ks, k < 256) (hz : ks.length ≤ 1000000) : CWd p 12 (.ref 603) [.str (tx ks)] H (.bytes (ks.map (·.toUInt8))) H := by
  refine CW.dropped (CW_0 (params := ["text"]) ["text"] ["bytes"] [some (.str (tx ks))] (fun us h => match us, h with | [u], _ => rfl) ?_)
  intro c F hTp hL
  walk_at "W"
  refine E_ListComp (cl := []) (closure_of (by simp [cellsOf])) ?_ F.L
  walk_at "W"
  refine I_tx ⟨fun i acc H₃ => acc = ((ks.take i).map fun (k : Nat) => .int (k : Int)) ∧ H₃ = H, ⟨by simpa using hz, ⟨rfl, rfl⟩, fun i acc H₃ b ⟨_, h⟩ hb => by rw [h]; exact hb, ?_⟩, ?_⟩
  · rintro C i y acc H₃ hC hy ⟨rfl, rfl⟩ hHC
    rw [List.getElem?_map] at hy
    obtain ⟨k, hk', rfl⟩ := Option.map_eq_some_iff.mp hy
    refine U1.inComp F hC ["sign"] ["ord"] [none] fun F' ce => ?_
    walk_at "W"
    show EW _ _ _ _ _ _ _
    walk_at "W"
    refine Os_ord ?_
    refine ⟨?_, rfl⟩
    rw [List.take_add_one, hk']
    simp
  · rintro acc H₃ D ⟨rfl, rfl⟩ hD _
    walk_at "W"
    refine Os_bytes_list (ks := ks.map (fun (k : Nat) => (k : Int))) (by rw [upd_same]; simp) (by simp; intro a ha; exact_mod_cast hk a ha) (by simp; omega) ?_
    walk_at "W"
    exact ⟨_, Le.upd _ hD, congrArg V.bytes (by simp [Function.comp_def]), rfl⟩
theorem whole_octets_spec {n : Int} (hn : n.natAbs < 10 ^ 40) (hd : (digT n).length ≤ 1000) (hd2 : ∀ k ∈ digT n, k < 256) : CWd p 15 (.ref 624) [.int n] H (.bytes ((digT n).map (·.toUInt8))) H := by
  refine CW_0 (params := ["number"]) ["number"] ["abs", "MOST_NUMBER", "PaperError", "text_octets", "str"] [some (.int n)] (fun us h => match us, h with | [u], _ => rfl) ?_
  intro c F hTp hL
  walk_at "W"
  refine Os_abs ?_
  walk_at "W"
  refine O_pow10 (m := 40) (by decide) ?_
  walk_at "W"
  have e40 : (10 : Int) ^ 40 = 10000000000000000000000000000000000000000 := by decide
  rw [e40]
  refine if_dec (fun h => absurd h (by omega)) fun h => ?_
  walk_at "W"
  refine Os_str_int ((Int.natAbs_natCast n.natAbs) ▸ log2_ok (Nat.lt_of_lt_of_le hn (by decide +kernel))) ?_
  walk_at "W"
  refine F_callE F (text_octets_spec hd2 (by omega)) (by decide) ?_
  walk_at "W"
  exact ⟨rfl, rfl⟩
end
end BodyW2
end Group14
section Group15
local macro_rules | `(tactic| walk_at "hv") => `(tactic| first
  | ((show EW _ _ _ _ (eval (Expr.Call (Expr.Name (Str.ofString "PaperError") _) _ _ _) _) _ _); (refine C_fn (by assumption) (by walk_at "gm") (c_PaperError _) ?_))
  | ((show EW _ _ _ _ (eval (Expr.Call (Expr.Name (Str.ofString "is_regular") _) _ _ _) _) _ _); (refine C_fn (by assumption) (by walk_at "gm") (c_is_regular _) ?_))
  | ((show EW _ _ _ _ (eval (Expr.Call (Expr.Name (Str.ofString "text_octets") _) _ _ _) _) _ _); (refine C_fn (by assumption) (by walk_at "gm") (c_text_octets _) ?_))
  | ((show EW _ _ _ _ (eval (Expr.Call (Expr.Name (Str.ofString "name_octets") _) _ _ _) _) _ _); (refine C_fn (by assumption) (by walk_at "gm") (c_name_octets _) ?_))
  | ((show EW _ _ _ _ (eval (Expr.Call (Expr.Name (Str.ofString "whole_octets") _) _ _ _) _) _ _); (refine C_fn (by assumption) (by walk_at "gm") (c_whole_octets _) ?_))
  | ((show EW _ _ _ _ (eval (Expr.Call (Expr.Name (Str.ofString "plain_part") _) _ _ _) _) _ _); (refine C_fn (by assumption) (by walk_at "gm") (c_plain_part _) ?_))
  | ((show EW _ _ _ _ (eval (Expr.Call (Expr.Name (Str.ofString "len") _) _ _ _) _) _ _); (refine C_bt (by assumption) (by walk_at "gm") (c_len _) ?_))
  | ((show EW _ _ _ _ (eval (Expr.Call (Expr.Name (Str.ofString "str") _) _ _ _) _) _ _); (refine C_bt (by assumption) (by walk_at "gm") (c_str _) ?_))
  | ((show EW _ _ _ _ (eval (Expr.Call (Expr.Name (Str.ofString "abs") _) _ _ _) _) _ _); (refine C_bt (by assumption) (by walk_at "gm") (c_abs _) ?_))
  | ((show EW _ _ _ _ (eval (Expr.Call (Expr.Name (Str.ofString "bytes") _) _ _ _) _) _ _); (refine C_bt (by assumption) (by walk_at "gm") (c_bytes _) ?_))
  | ((show EW _ _ _ _ (eval (Expr.Call (Expr.Name (Str.ofString "ord") _) _ _ _) _) _ _); (refine C_bt (by assumption) (by walk_at "gm") (c_ord _) ?_))
  | ((show EW _ _ _ _ (eval (Expr.Name (Str.ofString "NUMBER_SIGN") _) _) _ _); (refine G_int (by assumption) (by walk_at "gm") (g_NUMBER_SIGN _) ?_)))
local macro_rules | `(tactic| walk_at "hi") => `(tactic| first
  | refine if_nt ?_
  | refine if_nf ?_)
section BodyW3
def plainN (k : Nat) : Prop := 33 ≤ k ∧ k ≤ 126 ∧ k ≠ 35 ∧ isReg (k : Int) = true
section
variable {p : Pm} {H : HM}
theorem name_octets_spec {ks : List Nat} (hk : ∀ k ∈ ks, plainN k) (hz : ks.length ≤ 1000000) : CWd p 12 (.ref 617) [.str (tx ks)] H (.bytes (47 :: ks.map (·.toUInt8))) H := by
  refine CW.dropped (CW_0 (params := ["text"]) ["text", "found", "sign", "code"] ["bytes", "ord", "PaperError", "NUMBER_SIGN", "is_regular"] [some (.str (tx ks)), none, none, none] (fun us h => match us, h with | [u], _ => rfl) ?_)
  intro c F hTp hL
  walk_at "W"
  intro L hLL
  walk_at "W"
  refine I_tx ⟨fun i vals H' => vals = [some (.str (tx ks)), some (.ref L), none, none] ∧ i ≤ ks.length ∧ H' = upd H L (.list (.int 47 :: (ks.take i).map fun (k : Nat) => .int (k : Int))), _, by walk_at "le", ⟨rfl, Nat.zero_le _, rfl⟩, ?_, ?_⟩
  · rintro i x vals H₁ hx ⟨rfl, hi, rfl⟩
    rw [List.getElem?_map] at hx
    obtain ⟨k, hk', rfl⟩ := Option.map_eq_some_iff.mp hx
    obtain ⟨q1, q2, q3, q4⟩ := hk k (List.mem_of_getElem? hk')
    have hik := (List.getElem?_eq_some_iff.mp hk').1
    walk_at "W"
    refine Os_ord ?_
    walk_at "W"
    refine if_eq (fun h => absurd h (by omega)) (fun _ => ?_)
    walk_at "W"
    refine if_dec (fun h => absurd h (by omega)) (fun _ => ?_)
    walk_at "W"
    refine if_dec (fun h => absurd h (by omega)) (fun _ => ?_)
    walk_at "W"
    refine if_dec (fun h => absurd h (by omega)) (fun _ => ?_)
    walk_at "W"
    refine if_eq (fun h => absurd h (by omega)) (fun _ => ?_)
    walk_at "W"
    refine F_callE F is_regular_spec (by decide) ?_
    rw [q4]
    walk_at "W"
    refine G_append (upd_same ..) ⟨.builtin, ?_⟩
    walk_at "W"
    refine Os_append (upd_same ..) (by simp; omega) ?_
    rw [upd_upd]
    walk_at "W"
    refine Turn.nx (F := F) (vals := [_, _, none, none]) (by walk_at "le") ⟨rfl, hik, ?_⟩
    rw [List.take_add_one, hk']
    simp
  · rintro vals H₁ ⟨rfl, _, rfl⟩
    walk_at "W"
    refine Os_bytes_list (ks := 47 :: ks.map (fun (k : Nat) => (k : Int))) (by rw [upd_same]; simp) (fun a ha => ?_) (by simp; omega) ?_
    · rcases List.mem_cons.mp ha with rfl | ha
      · decide
      · obtain ⟨k, hk', rfl⟩ := List.mem_map.mp ha
        have := hk k hk'
        exact ⟨by omega, by have := this.2.1; omega⟩
    · exact ⟨_, Le.upd _ hLL, congrArg V.bytes (by simp [Function.comp_def]), rfl⟩
theorem plain_part_int {n : Int} {o : V} (hn : n.natAbs < 10 ^ 40) (hd : (digT n).length ≤ 1000) (hd2 : ∀ k ∈ digT n, k < 256) : CWd p 20 (.ref 664) [.str "int", .int n, o] H (.bytes ((digT n).map (·.toUInt8))) H := by
  refine CW_0 (params := ["kind", "value", "is_least"]) ["kind", "value", "is_least"] ["whole_octets", "decimal_octets", "name_octets", "string_octets", "PaperError"] [some (.str "int"), some (.int n), some o] (fun us h => match us, h with | [u, v, w], _ => rfl) ?_
  intro c F hTp hL
  walk_at "W"
  refine if_eq (fun h => absurd h (by decide)) (fun _ => ?_)
  walk_at "W"
  refine if_eq (fun h => absurd h (by decide)) (fun _ => ?_)
  walk_at "W"
  refine if_eq (fun _ => ?_) (fun h => absurd rfl h)
  walk_at "W"
  refine F_callE F (whole_octets_spec hn hd hd2) (by decide) ?_
  walk_at "W"
  exact ⟨rfl, rfl⟩
end
end BodyW3
end Group15
section Group16
local macro_rules | `(tactic| walk_at "hv") => `(tactic| first
  | ((show EW _ _ _ _ (eval (Expr.Call (Expr.Name (Str.ofString "kind_of") _) _ _ _) _) _ _); (refine C_fn (by assumption) (by walk_at "gm") (c_kind_of _) ?_))
  | ((show EW _ _ _ _ (eval (Expr.Call (Expr.Name (Str.ofString "parts_of") _) _ _ _) _) _ _); (refine C_fn (by assumption) (by walk_at "gm") (c_parts_of _) ?_))
  | ((show EW _ _ _ _ (eval (Expr.Call (Expr.Name (Str.ofString "depth_of") _) _ _ _) _) _ _); (refine C_fn (by assumption) (by walk_at "gm") (c_depth_of _) ?_))
  | ((show EW _ _ _ _ (eval (Expr.Call (Expr.Name (Str.ofString "len") _) _ _ _) _) _ _); (refine C_bt (by assumption) (by walk_at "gm") (c_len _) ?_))
  | ((show EW _ _ _ _ (eval (Expr.Call (Expr.Name (Str.ofString "max") _) _ _ _) _) _ _); (refine C_bt (by assumption) (by walk_at "gm") (c_max _) ?_))
  | ((show EW _ _ _ _ (eval (Expr.Call (Expr.Name (Str.ofString "list") _) _ _ _) _) _ _); (refine C_bt (by assumption) (by walk_at "gm") (c_list _) ?_))
  | ((show EW _ _ _ _ (eval (Expr.Call (Expr.Name (Str.ofString "sorted") _) _ _ _) _) _ _); (refine C_bt (by assumption) (by walk_at "gm") (c_sorted _) ?_)))
local macro_rules | `(tactic| walk_at "hi") => `(tactic| first
  | refine if_nt ?_
  | refine if_nf ?_)
section BodyW4
inductive TV
  | i (n : Nat)
  | r (n g : Nat)
def TV.v : TV → V
  | .i n => .int (n : Int)
  | .r n g => .obj 480 ["number", "generation"] [.int (n : Int), .int (g : Int)]
def TV.kind : TV → Str
  | .i _ => "int"
  | .r _ _ => "ref"
def TV.parts : TV → List (List UInt8)
  | .i n => [digB n]
  | .r n g => [digB n, digB g, [82]]
def TV.ok : TV → Prop
  | .i n => n < 10 ^ 20
  | .r n g => n < 10 ^ 20 ∧ g < 10 ^ 20
abbrev TE := List (List Nat × TV)
def tE (es : TE) : List (Str × V) := es.map fun e => (tx e.1, e.2.v)
theorem gva_mem {κ : Type} [DecidableEq κ] {es : List (κ × V)} {k : κ} (h : k ∈ es.map (·.1)) : ∃ v, gva es k = some v ∧ (k, v) ∈ es := by
  induction es with
  | nil => cases h
  | cons e es ih =>
    unfold gva at ih ⊢
    rw [List.find?_cons]
    by_cases q : e.1 = k
    · rw [decide_eq_true q]; exact ⟨e.2, rfl, by rw [← q]; exact .head _⟩
    · rw [decide_eq_false q]
      rcases List.mem_cons.mp h with r | r
      · exact absurd r.symm q
      · obtain ⟨v, h1, h2⟩ := ih r; exact ⟨v, h1, .tail _ h2⟩
section
variable {p : Pm} {H : HM} {a : Addr}
local macro_rules | `(tactic| walk_at "h") => `(tactic| first | exact upd_same .. | assumption | (rw [upd_ne (by first | assumption | (apply Ne.symm; assumption))]; walk_at "h"))
theorem kind_tv (t : TV) : CWd p 1 (.ref 491) [t.v] H (.str t.kind) H := by
  cases t with
  | i n => exact kind_int
  | r n g => exact kind_ref
theorem parts_of_spec {es : List (Str × V)} (ha : H a = some (.fdstr es)) (h64 : es.length < 64) : CW p 12 (.ref 508) [.ref a] H
    (fun v H' => ∃ L ws, H L = none ∧ v = .ref L ∧ H' = upd H L (.list ws) ∧ ws.length ≤ es.length ∧ ∀ w ∈ ws, ∃ k, (k, w) ∈ es) NXc := by
  refine CW.dropped (CW_cellP (n := 11) (y := "value") ["kind"] ["kind_of", "list", "sorted", "parts_of"] [none] (fun _ => rfl) (fun _ => rfl) fun c ca F hTp hL C hca hne => ?_)
  have hac : a ≠ ca := ne_of_some ha hca
  have oa : (upd H ca (.cell (some (.ref a)))) a = some (.fdstr es) := by rw [upd_ne hac]; exact ha
  have oc : (upd H ca (.cell (some (.ref a)))) ca = some (.cell (some (.ref a))) := upd_same ..
  walk_at "W"
  refine Cl_ F C oc ?_
  walk_at "W"
  refine F_callE F (kind_dict (es := es) oa) (by decide) ?_
  walk_at "W"
  refine if_eq (fun h => absurd h (by decide)) (fun _ => ?_)
  walk_at "W"
  refine if_eq (fun _ => ?_) (fun h => absurd rfl h)
  walk_at "W"
  refine E_ListComp (cl := [("value", ca)]) (closure_of (by simp [cellsOf, C.cell])) ?_ F.L
  walk_at "W"
  refine Cl_ F C oc ?_
  walk_at "W"
  refine Os_sorted_dictS oa h64 fun S ks hS hp _ => ?_
  have hSc : ca ≠ S := ne_of_some oc hS
  have hSa : a ≠ S := ne_of_some oa hS
  refine I_list (upd_same ..) ?_
  rw [upd_upd]
  have hklen : ks.length = es.length := by simpa using hp.length_eq
  refine ⟨fun i acc H₃ => acc.length = i ∧ (∀ w ∈ acc, ∃ k, (k, w) ∈ es) ∧ H₃ = upd (upd H ca (.cell (some (.ref a)))) S (.flist (ks.map .str)), ⟨by simp; omega, ⟨rfl, by simp, rfl⟩, fun i acc H₃ b ⟨_, _, h⟩ hb => by rw [h]; exact hb, ?_⟩, ?_⟩
  · rintro C' i y acc H₃ hC hy ⟨rfl, hacc, rfl⟩ hHC
    rw [List.getElem?_map] at hy
    obtain ⟨k, hk', rfl⟩ := Option.map_eq_some_iff.mp hy
    obtain ⟨v, hv, hm⟩ := gva_mem (hp.mem_iff.mp (List.mem_of_getElem? hk'))
    refine U1.inComp F hC ["key"] [] [none] fun F' ce => ?_
    have C2 := ce _ _ C rfl rfl
    walk_at "W"
    show EW _ _ _ _ _ _ _
    walk_at "W"
    refine Cl_ F' C2 (by rw [upd_ne hSc]; exact oc) ?_
    walk_at "W"
    refine O_item_fdstr (by rw [upd_ne hSa]; exact oa) hv ?_
    exact ⟨by simp, fun w hw => (List.mem_append.mp hw).elim (hacc w) fun h => by rw [List.mem_singleton.mp h]; exact ⟨k, hm⟩, rfl⟩
  · rintro acc H₃ D ⟨hl, hacc, rfl⟩ hD hal
    obtain ⟨h1, hD⟩ := fresh_of hD
    obtain ⟨h2, hD⟩ := fresh_of hD
    exact ⟨_, LeUpd2 ((Le.upd _ hca).trans (Le.upd _ hS)), D, acc, hD, rfl, rfl, by simp at hal; omega, hacc⟩
theorem depth_of_spec {es : TE} (ha : H a = some (.fdstr (tE es))) (h64 : es.length < 64) : CWd p 16 (.ref 515) [.ref a] H (.int 1) H := by
  refine CW.dropped (CW_0 (params := ["value"]) ["value", "deepest", "line", "here", "above", "part"] ["kind_of", "max", "parts_of"] [some (.ref a), none, none, none, none, none] (fun us h => match us, h with | [u], _ => rfl) ?_)
  intro c F hTp hL
  walk_at "W"
  intro L hLL
  have hLa : L ≠ a := fun q => by rw [q, ha] at hLL; cases hLL
  walk_at "W"
  refine K_While F (fun m vals H' => (m = es.length + 1 ∧ vals = [some (.ref a), some (.int 0), some (.ref L), none, none, none] ∧ H' = upd H L (.list [.tup [.ref a, .int 0]])) ∨
    (∃ ts : List TV, m = ts.length ∧ m ≤ es.length ∧ vals = [some (.ref a), some (.int 1), some (.ref L), none, none, none] ∧ H' = upd H L (.list (ts.map fun t => .tup [t.v, .int 1])))) _ _ (by walk_at "le") (.inl ⟨rfl, rfl, rfl⟩) ?_
  rintro m _ _ (⟨rfl, rfl, rfl⟩ | ⟨ts, rfl, hm, rfl, rfl⟩)
  · walk_at "W"
    refine T_list (upd_same ..) (by simp) ?_
    refine if_nf ?_
    walk_at "W"
    refine G_pop (upd_same ..) ⟨.builtin, ?_⟩
    walk_at "W"
    refine Os_pop (vs := []) (upd_same ..) (by decide) ?_
    rw [upd_upd]
    walk_at "W"
    refine F_callE F (kind_dict (es := tE es) (by walk_at "h")) (by decide) ?_
    walk_at "W"
    refine if_dec (fun _ => ?_) (fun h => absurd (by simp) h)
    walk_at "W"
    refine Os_max2 ?_
    walk_at "W"
    refine F.call (parts_of_spec (es := tE es) (by walk_at "h") (by simpa [tE] using h64)) (by decide) ?_ (fun _ _ _ h => h.elim)
    rintro v H' ⟨P, ws, hP, rfl, rfl, hw, hmem⟩
    obtain ⟨hPL, hHP⟩ := fresh_of hP
    have hlen : ws.length ≤ es.length := by simpa [tE] using hw
    obtain ⟨ts, rfl⟩ : ∃ ts : List TV, ws = ts.map TV.v := by
      clear hw hlen hP
      induction ws with
      | nil => exact ⟨[], rfl⟩
      | cons w ws ih =>
        obtain ⟨ts, rfl⟩ := ih fun w hw => hmem w (.tail _ hw)
        obtain ⟨k, hk⟩ := hmem w (.head _)
        obtain ⟨e, _, he⟩ := List.mem_map.mp hk
        exact ⟨e.2 :: ts, by rw [← (Prod.mk.inj he).2]; rfl⟩
    rw [List.length_map] at hlen
    walk_at "W"
    refine I_list (upd_same ..) ?_
    rw [upd_upd]
    refine ⟨fun i vals H' => i ≤ ts.length ∧ vals = [some (.ref a), some (.int 1), some (.ref L), some (.ref a), some (.int 0), none] ∧ H' = upd (upd H L (.list ((ts.take i).map fun t => .tup [t.v, .int 1]))) P (.flist (ts.map TV.v)), _, by walk_at "le", ⟨Nat.zero_le _, rfl, rfl⟩, ?_, ?_⟩
    · rintro i x vals H₁ hx ⟨hi, rfl, rfl⟩
      rw [List.getElem?_map] at hx
      obtain ⟨t, ht, rfl⟩ := Option.map_eq_some_iff.mp hx
      walk_at "W"
      refine G_append (by walk_at "h") ⟨.builtin, ?_⟩
      walk_at "W"
      refine Os_append (by walk_at "h") (by simp; omega) ?_
      rw [upd_comm _ _ _ hPL, upd_upd]
      walk_at "W"
      refine Turn.nx (F := F) (vals := [_, _, _, _, _, none]) (by walk_at "le") ⟨(List.getElem?_eq_some_iff.mp ht).1, rfl, ?_⟩
      rw [List.take_add_one, ht]; simp
    · rintro vals H₁ ⟨_, rfl, rfl⟩
      refine SW.drop (Le.upd _ (by rw [upd_ne hPL]; exact hHP)) ?_
      walk_at "W"
      refine Turn.nx (F := F) (vals := [_, _, _, none, none, none]) (by walk_at "le") ⟨ts.length, by omega, .inr ⟨ts, rfl, hlen, rfl, by simp⟩⟩
  · walk_at "W"
    refine T_list (upd_same ..) (by simp; omega) ?_
    refine if_nb (fun h => ?_) (fun h => ?_)
    · obtain ⟨t, ts, rfl⟩ : ∃ t ts', ts = ts' ++ [t] := by
        rcases List.eq_nil_or_concat ts with rfl | ⟨ts', t, e⟩
        · simp at h
        · exact ⟨t, ts', by simpa using e⟩
      simp only [List.map_append, List.map_cons, List.map_nil]
      walk_at "W"
      refine G_pop (upd_same ..) ⟨.builtin, ?_⟩
      walk_at "W"
      refine Os_pop (upd_same ..) (by simp at hm ⊢; omega) ?_
      rw [upd_upd]
      walk_at "W"
      refine F_callE F (kind_tv t) (by decide) ?_
      walk_at "W"
      refine if_dec (fun h => absurd h (by cases t <;> (simp only [TV.kind]; decide))) (fun _ => ?_)
      walk_at "W"
      refine Turn.nx (F := F) (vals := [_, _, _, none, none, none]) (by walk_at "le") ⟨ts.length, by simp, .inr ⟨ts, rfl, by simp at hm; omega, rfl, rfl⟩⟩
    · walk_at "W"
      exact ⟨_, Le.upd _ hLL, rfl, rfl⟩
end
end BodyW4
end Group16
section Group17
local macro_rules | `(tactic| walk_at "hv") => `(tactic| first
  | ((show EW _ _ _ _ (eval (Expr.Call (Expr.Name (Str.ofString "PaperError") _) _ _ _) _) _ _); (refine C_fn (by assumption) (by walk_at "gm") (c_PaperError _) ?_))
  | ((show EW _ _ _ _ (eval (Expr.Call (Expr.Name (Str.ofString "is_regular") _) _ _ _) _) _ _); (refine C_fn (by assumption) (by walk_at "gm") (c_is_regular _) ?_))
  | ((show EW _ _ _ _ (eval (Expr.Call (Expr.Name (Str.ofString "kind_of") _) _ _ _) _) _ _); (refine C_fn (by assumption) (by walk_at "gm") (c_kind_of _) ?_))
  | ((show EW _ _ _ _ (eval (Expr.Call (Expr.Name (Str.ofString "parts_of") _) _ _ _) _) _ _); (refine C_fn (by assumption) (by walk_at "gm") (c_parts_of _) ?_))
  | ((show EW _ _ _ _ (eval (Expr.Call (Expr.Name (Str.ofString "depth_of") _) _ _ _) _) _ _); (refine C_fn (by assumption) (by walk_at "gm") (c_depth_of _) ?_))
  | ((show EW _ _ _ _ (eval (Expr.Call (Expr.Name (Str.ofString "name_octets") _) _ _ _) _) _ _); (refine C_fn (by assumption) (by walk_at "gm") (c_name_octets _) ?_))
  | ((show EW _ _ _ _ (eval (Expr.Call (Expr.Name (Str.ofString "whole_octets") _) _ _ _) _) _ _); (refine C_fn (by assumption) (by walk_at "gm") (c_whole_octets _) ?_))
  | ((show EW _ _ _ _ (eval (Expr.Call (Expr.Name (Str.ofString "plain_part") _) _ _ _) _) _ _); (refine C_fn (by assumption) (by walk_at "gm") (c_plain_part _) ?_))
  | ((show EW _ _ _ _ (eval (Expr.Call (Expr.Name (Str.ofString "lay_reference") _) _ _ _) _) _ _); (refine C_fn (by assumption) (by walk_at "gm") (c_lay_reference _) ?_))
  | ((show EW _ _ _ _ (eval (Expr.Call (Expr.Name (Str.ofString "lay_dict") _) _ _ _) _) _ _); (refine C_fn (by assumption) (by walk_at "gm") (c_lay_dict _) ?_))
  | ((show EW _ _ _ _ (eval (Expr.Call (Expr.Name (Str.ofString "lay_parts") _) _ _ _) _) _ _); (refine C_fn (by assumption) (by walk_at "gm") (c_lay_parts _) ?_))
  | ((show EW _ _ _ _ (eval (Expr.Call (Expr.Name (Str.ofString "joined_parts") _) _ _ _) _) _ _); (refine C_fn (by assumption) (by walk_at "gm") (c_joined_parts _) ?_))
  | ((show EW _ _ _ _ (eval (Expr.Call (Expr.Name (Str.ofString "len") _) _ _ _) _) _ _); (refine C_bt (by assumption) (by walk_at "gm") (c_len _) ?_))
  | ((show EW _ _ _ _ (eval (Expr.Call (Expr.Name (Str.ofString "max") _) _ _ _) _) _ _); (refine C_bt (by assumption) (by walk_at "gm") (c_max _) ?_))
  | ((show EW _ _ _ _ (eval (Expr.Call (Expr.Name (Str.ofString "bytes") _) _ _ _) _) _ _); (refine C_bt (by assumption) (by walk_at "gm") (c_bytes _) ?_))
  | ((show EW _ _ _ _ (eval (Expr.Call (Expr.Name (Str.ofString "list") _) _ _ _) _) _ _); (refine C_bt (by assumption) (by walk_at "gm") (c_list _) ?_))
  | ((show EW _ _ _ _ (eval (Expr.Call (Expr.Name (Str.ofString "sorted") _) _ _ _) _) _ _); (refine C_bt (by assumption) (by walk_at "gm") (c_sorted _) ?_))
  | ((show EW _ _ _ _ (eval (Expr.Name (Str.ofString "MOST_NESTED") _) _) _ _); (refine G_int (by assumption) (by walk_at "gm") (g_MOST_NESTED _) ?_)))
local macro_rules | `(tactic| walk_at "hi") => `(tactic| first
  | refine if_nt ?_
  | refine if_nf ?_)
section BodyW5
def keyB (ks : List Nat) : List UInt8 := 47 :: ks.map (·.toUInt8)
def dictMid (es : TE) : List (List UInt8) := es.flatMap fun e => keyB e.1 :: e.2.parts
def dictParts (es : TE) : List (List UInt8) := [60, 60] :: dictMid es ++ [[62, 62]]
structure TEok (es : TE) : Prop where
  nd : (es.map (·.1)).Nodup
  few : es.length < 64
  key : ∀ e ∈ es, (∀ k ∈ e.1, plainN k) ∧ e.1.length ≤ 1000
  val : ∀ e ∈ es, e.2.ok
theorem gva_nodup {κ : Type} [DecidableEq κ] {es : List (κ × V)} {i : Nat} {k : κ} {v : V} (nd : (es.map (·.1)).Nodup) (h : es[i]? = some (k, v)) : gva es k = some v := by
  induction es generalizing i with
  | nil => simp at h
  | cons e es ih =>
    rw [List.map_cons, List.nodup_cons] at nd
    unfold gva at ih ⊢
    rw [List.find?_cons]
    cases i with
    | zero => simp at h; subst h; simp
    | succ i =>
      have h' : es[i]? = some (k, v) := by simpa using h
      have hne : e.1 ≠ k := fun q => nd.1 (by rw [q]; exact List.mem_map.mpr ⟨_, List.mem_of_getElem? h', rfl⟩)
      rw [decide_eq_false hne]
      exact ih nd.2 h'
theorem TEok.gva {es : TE} (h : TEok es) {i : Nat} {e : List Nat × TV} (he : es[i]? = some e) : gva (tE es) (tx e.1) = some e.2.v := by
  refine gva_nodup (i := i) ?_ (by unfold tE; rw [List.getElem?_map, he]; rfl)
  rw [tE, List.map_map, show ((·.1) ∘ fun e : List Nat × TV => (tx e.1, e.2.v)) = tx ∘ (·.1) from rfl, ← List.map_map]
  exact List.Pairwise.map _ (fun a b hab q => hab (tx_inj q)) h.nd
theorem digT_ok {n : Nat} (h : n < 10 ^ 20) : ((n : Int)).natAbs < 10 ^ 40 ∧ (digT (n : Int)).length ≤ 1000 ∧ (∀ k ∈ digT (n : Int), k < 256) ∧ (digT (n : Int)).map (·.toUInt8) = digB n := by
  rw [digT_nat, Int.natAbs_natCast]
  refine ⟨Nat.lt_of_lt_of_le h (by decide), ?_, fun k hk => ?_, rfl⟩
  · have := digN_len (k := 20) (by decide) h; omega
  · have := digN_mem hk; omega
section
variable {p : Pm} {H : HM} {a L : Addr} {o : V} {bs : List (List UInt8)}
local macro_rules | `(tactic| walk_at "h") => `(tactic| first | exact upd_same .. | assumption | (rw [upd_ne (by first | assumption | (apply Ne.symm; assumption))]; walk_at "h"))
theorem lay_reference_spec {n g : Nat} (hn : n < 10 ^ 20) (hg : g < 10 ^ 20) (hL : H L = some (.list (bs.map .bytes))) (hb : bs.length ≤ 1000) :
    CWd p 22 (.ref 671) [.ref L, (TV.r n g).v] H .none (upd H L (.list ((bs ++ (TV.r n g).parts).map .bytes))) := by
  refine CW_0 (params := ["parts", "value"]) ["parts", "value"] ["PaperError", "whole_octets"] [some (.ref L), some (TV.r n g).v] (fun us h => match us, h with | [u, v], _ => rfl) ?_
  intro c F hTp hLc
  obtain ⟨n1, n2, n3, n4⟩ := digT_ok hn
  obtain ⟨g1, g2, g3, g4⟩ := digT_ok hg
  walk_at "W"
  refine A_obj (a_number p) rfl ?_
  walk_at "W"
  refine if_dec (fun h => absurd h (by omega)) (fun _ => ?_)
  walk_at "W"
  refine A_obj (a_generation p) rfl ?_
  walk_at "W"
  refine if_dec (fun h => absurd h (by omega)) (fun _ => ?_)
  walk_at "W"
  refine G_append (by walk_at "h") ⟨.builtin, ?_⟩
  walk_at "W"
  refine A_obj (a_number p) rfl ?_
  walk_at "W"
  refine F_callE F (whole_octets_spec n1 n2 n3) (by decide) ?_
  walk_at "W"
  refine Os_append (by walk_at "h") (by simp; omega) ?_
  walk_at "W"
  refine G_append (by walk_at "h") ⟨.builtin, ?_⟩
  walk_at "W"
  refine A_obj (a_generation p) rfl ?_
  walk_at "W"
  refine F_callE F (whole_octets_spec g1 g2 g3) (by decide) ?_
  walk_at "W"
  refine Os_append (by walk_at "h") (by simp; omega) ?_
  rw [upd_upd]
  walk_at "W"
  refine G_append (by walk_at "h") ⟨.builtin, ?_⟩
  walk_at "W"
  refine Os_append (by walk_at "h") (by simp; omega) ?_
  rw [upd_upd]
  walk_at "W"
  refine ⟨rfl, ?_⟩
  rw [n4, g4]
  simp [TV.parts]
theorem lay_tv_spec {t : TV} (ht : t.ok) (hL : H L = some (.list (bs.map .bytes))) (hb : bs.length ≤ 1000) :
    CWd p 25 (.ref 685) [.ref L, t.v, .bool false] H .none (upd H L (.list ((bs ++ t.parts).map .bytes))) := by
  refine CW_0 (params := ["parts", "value", "is_least"]) ["parts", "value", "is_least", "kind", "part"] ["kind_of", "lay_parts", "lay_dict", "lay_reference", "plain_part"] [some (.ref L), some t.v, some (.bool false), none, none] (fun us h => match us, h with | [u, v, w], _ => rfl) ?_
  intro c F hTp hLc
  walk_at "W"
  refine F_callE F (kind_tv t) (by decide) ?_
  walk_at "W"
  cases t with
  | i n =>
    obtain ⟨n1, n2, n3, n4⟩ := digT_ok ht
    refine if_eq (fun h => absurd h (by simp only [TV.kind]; decide)) (fun _ => ?_)
    walk_at "W"
    refine if_eq (fun h => absurd h (by simp only [TV.kind]; decide)) (fun _ => ?_)
    walk_at "W"
    refine if_eq (fun h => absurd h (by simp only [TV.kind]; decide)) (fun _ => ?_)
    walk_at "W"
    refine G_append (by walk_at "h") ⟨.builtin, ?_⟩
    walk_at "W"
    refine F_callE F (plain_part_int n1 n2 n3) (by decide) ?_
    walk_at "W"
    refine Os_append (by walk_at "h") (by simp; omega) ?_
    walk_at "W"
    refine ⟨rfl, ?_⟩
    rw [n4]; simp [TV.parts]
  | r n g =>
    refine if_eq (fun h => absurd h (by simp only [TV.kind]; decide)) (fun _ => ?_)
    walk_at "W"
    refine if_eq (fun h => absurd h (by simp only [TV.kind]; decide)) (fun _ => ?_)
    walk_at "W"
    refine if_eq (fun _ => ?_) (fun h => absurd rfl h)
    walk_at "W"
    refine F_callE F (lay_reference_spec ht.1 ht.2 hL hb) (by decide) ?_
    walk_at "W"
    exact ⟨rfl, rfl⟩
end
end BodyW5
section BodyW6
theorem TV.con (t : TV) : ∀ x, t.v ≠ .con x := fun x h => by cases t <;> cases h
theorem TV.nn (t : TV) : t.v.isNone = false := by cases t <;> rfl
section
variable {p : Pm} {H : HM} {a L : Addr} {o : V} {bs : List (List UInt8)} {es : TE}
local macro_rules | `(tactic| walk_at "h") => `(tactic| first | exact upd_same .. | assumption | (rw [upd_ne (by first | assumption | (apply Ne.symm; assumption))]; walk_at "h"))
theorem parts_le (t : TV) : t.parts.length ≤ 3 := by cases t <;> simp [TV.parts]
theorem dictMid_le (es : TE) : (dictMid es).length ≤ 4 * es.length := by
  induction es with
  | nil => simp [dictMid]
  | cons e es ih =>
    have := parts_le e.2
    simp [dictMid] at ih ⊢; omega
theorem dictMid_take {i : Nat} {e : List Nat × TV} (h : es[i]? = some e) : dictMid (es.take (i + 1)) = dictMid (es.take i) ++ keyB e.1 :: e.2.parts := by
  rw [List.take_add_one, h]; simp [dictMid]
theorem lay_dict_spec (he : TEok es) (ha : H a = some (.fdstr (tE es))) (hL : H L = some (.list (bs.map .bytes))) (hb : bs.length ≤ 100) :
    CWd p 28 (.ref 678) [.ref L, .ref a, .bool false] H .none (upd H L (.list ((bs ++ dictParts es).map .bytes))) := by
  refine CW_0 (params := ["parts", "value", "is_least"]) ["parts", "value", "is_least", "key"] ["sorted", "name_octets", "lay_parts"] [some (.ref L), some (.ref a), some (.bool false), none] (fun us h => match us, h with | [u, v, w], _ => rfl) ?_
  intro c F hTp hLc
  have haL : a ≠ L := fun q => by rw [q, hL] at ha; cases ha
  have h64 := he.few
  walk_at "W"
  refine G_append (by walk_at "h") ⟨.builtin, ?_⟩
  walk_at "W"
  refine Os_append (by walk_at "h") (by simp; omega) ?_
  walk_at "W"
  refine I_dictS (es := tE es) (by walk_at "h") ?_
  refine ⟨fun i vals H' => i ≤ es.length ∧ vals = [some (.ref L), some (.ref a), some (.bool false), none] ∧ H' = upd H L (.list ((bs ++ [60, 60] :: dictMid (es.take i)).map .bytes)), _, by walk_at "le", ⟨Nat.zero_le _, rfl, by simp [dictMid]⟩, ?_, ?_⟩
  · rintro i x vals H₁ hx ⟨hi, rfl, rfl⟩
    rw [tE, List.getElem?_map, List.getElem?_map] at hx
    obtain ⟨e', he', rfl⟩ := Option.map_eq_some_iff.mp hx
    obtain ⟨e, hei, rfl⟩ := Option.map_eq_some_iff.mp he'
    have hg := he.gva hei
    have hm := List.mem_of_getElem? hei
    have hil := (List.getElem?_eq_some_iff.mp hei).1
    have hml := dictMid_le (es.take i)
    rw [List.length_take] at hml
    obtain ⟨k1, k2⟩ := he.key e hm
    dsimp only
    walk_at "W"
    refine O_item_fdstr (es := tE es) (by walk_at "h") hg ?_
    walk_at "W"
    refine O_isnot_none e.2.con ?_
    rw [TV.nn]
    walk_at "W"
    refine G_append (by walk_at "h") ⟨.builtin, ?_⟩
    walk_at "W"
    refine F_callE F (name_octets_spec k1 (by omega)) (by decide) ?_
    walk_at "W"
    refine Os_append (by walk_at "h") (by simp; omega) ?_
    rw [upd_upd]
    walk_at "W"
    refine O_item_fdstr (es := tE es) (by walk_at "h") hg ?_
    walk_at "W"
    refine F_callE F (lay_tv_spec (bs := bs ++ [60, 60] :: dictMid (es.take i) ++ [keyB e.1]) (he.val e hm) (by rw [upd_same]; simp [keyB]) (by simp; omega)) (by decide) ?_
    rw [upd_upd]
    walk_at "W"
    refine Turn.nx (F := F) (vals := [_, _, _, none]) (by walk_at "le") ⟨hil, rfl, ?_⟩
    rw [dictMid_take hei]; simp
  · rintro vals H₁ ⟨_, rfl, rfl⟩
    have hml := dictMid_le es
    rw [List.take_of_length_le (by simp [tE])]
    walk_at "W"
    refine G_append (by walk_at "h") ⟨.builtin, ?_⟩
    walk_at "W"
    refine Os_append (by walk_at "h") (by simp; omega) ?_
    rw [upd_upd]
    walk_at "W"
    refine ⟨rfl, ?_⟩
    simp [dictParts]
theorem lay_parts_dict (he : TEok es) (ha : H a = some (.fdstr (tE es))) (hL : H L = some (.list (bs.map .bytes))) (hb : bs.length ≤ 100) :
    CWd p 30 (.ref 685) [.ref L, .ref a, .bool false] H .none (upd H L (.list ((bs ++ dictParts es).map .bytes))) := by
  refine CW_0 (params := ["parts", "value", "is_least"]) ["parts", "value", "is_least", "kind", "part"] ["kind_of", "lay_parts", "lay_dict", "lay_reference", "plain_part"] [some (.ref L), some (.ref a), some (.bool false), none, none] (fun us h => match us, h with | [u, v, w], _ => rfl) ?_
  intro c F hTp hLc
  walk_at "W"
  refine F_callE F (kind_dict ha) (by decide) ?_
  walk_at "W"
  refine if_eq (fun h => absurd h (by decide)) (fun _ => ?_)
  walk_at "W"
  refine if_eq (fun _ => ?_) (fun h => absurd rfl h)
  walk_at "W"
  refine F_callE F (lay_dict_spec he ha hL hb) (by decide) ?_
  walk_at "W"
  exact ⟨rfl, rfl⟩
theorem joined_parts_spec (hL : H L = some (.list (bs.map .bytes))) (hz : (joinB [32] bs).length ≤ 16000000) (hz2 : bs.foldl (· + ·.length) (1 * (bs.length - 1)) ≤ 16000000) :
    CWd p 3 (.ref 699) [.ref L, .bool false] H (.bytes (joinB [32] bs)) H := by
  refine CW_0 (params := ["parts", "is_least"]) ["parts", "is_least", "found", "at"] ["range", "len", "run_together"] [some (.ref L), some (.bool false), none, none] (fun us h => match us, h with | [u, v], _ => rfl) ?_
  intro c F hTp hLc
  walk_at "W"
  refine G_join ⟨.builtin, ?_⟩
  walk_at "W"
  refine Os_join hL hz hz2 ?_
  exact ⟨rfl, rfl⟩
def dictB (es : TE) : List UInt8 := joinB [32] (dictParts es)
theorem write_object_spec (he : TEok es) (ha : H a = some (.fdstr (tE es))) (hz : (dictB es).length ≤ 16000000) (hz2 : (dictParts es).foldl (· + ·.length) (1 * ((dictParts es).length - 1)) ≤ 16000000) :
    CWd p 40 (.ref 713) [.ref a, .bool false] H (.bytes (dictB es)) H := by
  refine CW.dropped (CW_0 (params := ["value", "is_least"]) ["value", "is_least", "parts", "between"] ["depth_of", "MOST_NESTED", "PaperError", "kind_of", "lay_parts", "joined_parts", "lay_dict", "stream_head", "bytes"] [some (.ref a), some (.bool false), none, none] (fun us h => match us, h with | [u, v], _ => rfl) ?_)
  intro c F hTp hLc
  walk_at "W"
  refine F_callE F (depth_of_spec ha he.few) (by decide) ?_
  walk_at "W"
  refine if_dec (fun h => absurd h (by decide)) (fun _ => ?_)
  walk_at "W"
  intro L hHL
  have haL : a ≠ L := ne_of_some ha hHL
  walk_at "W"
  refine F_callE F (kind_dict (es := tE es) (by walk_at "h")) (by decide) ?_
  walk_at "W"
  refine if_ne (fun _ => ?_) (fun h => absurd h (by decide))
  walk_at "W"
  refine F_callE F (lay_parts_dict (bs := []) he (by walk_at "h") (by walk_at "h") (by decide)) (by decide) ?_
  rw [upd_upd]
  walk_at "W"
  refine F_callE F (joined_parts_spec (bs := dictParts es) (by rw [upd_same]; rfl) hz hz2) (by decide) ?_
  walk_at "W"
  exact ⟨_, Le.upd _ hHL, rfl, rfl⟩
end
end BodyW6
end Group17
section Group18
local macro_rules | `(tactic| walk_at "hv") => `(tactic| first
  | ((show EW _ _ _ _ (eval (Expr.Call (Expr.Name (Str.ofString "CrossFault") _) _ _ _) _) _ _); (refine C_fn (by assumption) (by walk_at "gm") (c_CrossFault _) ?_))
  | ((show EW _ _ _ _ (eval (Expr.Call (Expr.Name (Str.ofString "figures") _) _ _ _) _) _ _); (refine C_fn (by assumption) (by walk_at "gm") (c_figures _) ?_))
  | ((show EW _ _ _ _ (eval (Expr.Call (Expr.Name (Str.ofString "len") _) _ _ _) _) _ _); (refine C_bt (by assumption) (by walk_at "gm") (c_len _) ?_))
  | ((show EW _ _ _ _ (eval (Expr.Call (Expr.Name (Str.ofString "str") _) _ _ _) _) _ _); (refine C_bt (by assumption) (by walk_at "gm") (c_str _) ?_))
  | ((show EW _ _ _ _ (eval (Expr.Name (Str.ofString "MOST_OFFSET") _) _) _ _); (refine G_int (by assumption) (by walk_at "gm") (g_MOST_OFFSET _) ?_))
  | ((show EW _ _ _ _ (eval (Expr.Name (Str.ofString "MOST_GENERATION") _) _) _ _); (refine G_int (by assumption) (by walk_at "gm") (g_MOST_GENERATION _) ?_)))
local macro_rules | `(tactic| walk_at "hs") => `(tactic| first
  | ((show SW _ _ _ _ (execs (Stmt.Raise (some (Expr.Call (Expr.Name (Str.ofString "CrossFault") _) _ _ _)) none _ :: _) _) _ _); (refine K_Cross (by assumption) ?_)))
local macro_rules | `(tactic| walk_at "hi") => `(tactic| first
  | refine if_nt ?_
  | refine if_nf ?_)
section BodyW7
theorem wayS_packed (b : Bool) : wayS b ≠ "packed" := by cases b <;> decide
theorem wayS_free : wayS false ≠ "used" := by decide
section
variable {p : Pm} {H : HM} {e C : Addr} {w : Str}
theorem exc_init2 (XC : XCls p C) (he : H e = none) : CW p 2 (.ref 166) [.con (.ref e), .str w] (upd H e (.exc C none))
    (fun v H' => v = .none ∧ ∃ d, H d = none ∧ d ≠ e ∧ H' = upd (upd H d (.flds [("what", .str w), ("at", .int (-1))])) e (.exc C (some d))) NXc := by
  refine CW_D (params := ["self", "what", "at"]) ["self", "what", "at"] ["Exception"] [some (.con (.ref e)), some (.str w), some (.int (-1))] [.int (-1)] [_] (fun Z => RepVs.cons (.int _ _) .nil) (fun us h => match us, h with | [u, v], _ => ⟨_, rfl, rfl⟩) ?_
  intro c F hT hL
  walk_at "W"
  refine B_ F (by walk_at "gm") (c_Exception p).no (c_Exception p).val ?_
  refine G_exc_init F.L (cls_exc_init p) ⟨.builtin, ?_⟩
  walk_at "W"
  refine Os_exc_init XC (upd_same ..) ?_
  walk_at "W"
  refine U_exc_first XC XC.tw (upd_same ..) fun d hd hde => ?_
  rw [upd_ne hde] at hd
  rw [show upd (upd (upd H e (AObj.exc C none)) d (.flds [("what", .str w)])) e (.exc C (some d)) = upd (upd H d (.flds [("what", .str w)])) e (.exc C (some d)) by rw [upd_comm _ _ _ hde.symm, upd_upd]]
  walk_at "W"
  refine U_exc_next XC XC.ta (upd_same ..) (fs := [("what", .str w)]) (by rw [upd_ne hde]; exact upd_same ..) (Nat.le_of_ble_eq_true rfl) ?_
  walk_at "W"
  refine ⟨rfl, d, hd, hde, ?_⟩
  rw [upd_comm _ _ _ hde.symm, upd_upd]; rfl
end
theorem Os_cross1 {p : Pm} {n : Nat} {c : Cx} {ρ : LM} {H : HM} {X : XQ} {xs gs : List Str} (F : Fn p n c xs gs) (hn : 12 ≤ n) {w : Str} (h : X 201 [("what", .str w), ("at", .int (-1))] ρ H) :
    Os p c ρ H (fun us => call (.ref 201) us) [.str w] (Rz X ρ) X := by
  refine Os_exc (m := 2) (x_Cross p) (ty_166 p) (Nat.le_of_ble_eq_true rfl) (by have := F.n; omega) F.L (fun e he => (exc_init2 (x_Cross p) he).mono (Nat.le_refl _) (fun v H' => ?_) (fun _ _ _ h => h)) (fun C fs H' h => h.elim)
  rintro ⟨hv, d, hd, hde, rfl⟩
  exact ⟨hv, e, d, _, H, rfl, rfl, hde, he, hd, h⟩
section
variable {p : Pm} {H : HM}
theorem figures_spec {n m : Nat} (hn : n < 10 ^ 20) (hm : m ≤ 100) : CWd p 3 (.ref 811) [.int (n : Int), .int (m : Int)] H (.bytes (padB n m)) H := by
  refine CW_0 (params := ["number", "count"]) ["number", "count"] ["str"] [some (.int (n : Int)), some (.int (m : Int))] (fun us h => match us, h with | [u, v], _ => rfl) ?_
  intro c F hTp hL
  have hl := digN_len (k := 20) (by decide) hn
  walk_at "W"
  refine Os_str_int (log2_ok (Nat.lt_of_lt_of_le hn (by decide +kernel))) ?_
  rw [digT_nat]
  refine G_rjust ⟨.builtin, ?_⟩
  walk_at "W"
  refine Os_rjust (k := 48) (by omega) ?_
  refine G_encode ⟨.builtin, ?_⟩
  walk_at "W"
  refine Os_encode (by simp; omega) (fun k hk => ?_) ?_
  · rcases List.mem_append.mp hk with h | h
    · have := (List.mem_replicate.mp h).2; omega
    · have := digN_mem h; omega
  · refine ⟨congrArg V.bytes ?_, rfl⟩
    simp [padB, digB]
theorem entry_line_good {e : EntN} (he : EntOk e) : CWd p 12 (.ref 818) [entO (entV e)] H (.bytes (entB e ++ [32, 10])) H := by
  refine CW_0 (params := ["entry"]) ["entry"] ["CrossFault", "MOST_OFFSET", "MOST_GENERATION", "figures"] [some (entO (entV e))] (fun us h => match us, h with | [u], _ => rfl) ?_
  intro c F hTp hL
  obtain ⟨b, one, two⟩ := e
  obtain ⟨h1, h2⟩ := he
  have h1' : one < 10 ^ 10 := h1
  have h2' : two ≤ 65535 := h2
  have hp : (padB one 10).length = 10 := padB_len (by decide) h1
  have hq : (padB two 5).length = 5 := padB_len (by decide) (by omega)
  walk_at "W"
  refine A_obj (a_way p) rfl ?_
  walk_at "W"
  refine if_eq (fun h => absurd h (wayS_packed b)) (fun _ => ?_)
  walk_at "W"
  refine A_obj (a_one p) rfl ?_
  walk_at "W"
  refine if_dec (fun _ => ?_) (fun h => absurd (by show (0 : Int) ≤ (one : Int); omega) h)
  walk_at "W"
  refine if_ndec (fun h => absurd (by show (one : Int) ≤ 9999999999; omega) h) (fun _ => ?_)
  walk_at "W"
  refine A_obj (a_two p) rfl ?_
  walk_at "W"
  refine if_dec (fun _ => ?_) (fun h => absurd (by show (0 : Int) ≤ (two : Int); omega) h)
  walk_at "W"
  refine if_ndec (fun h => absurd (by show (two : Int) ≤ 65535; omega) h) (fun _ => ?_)
  walk_at "W"
  refine A_obj (a_one p) rfl ?_
  walk_at "W"
  refine F_callE F (figures_spec (n := one) (m := 10) (by omega) (by decide)) (by decide) ?_
  walk_at "W"
  refine O_addB (by simp [hp]) ?_
  walk_at "W"
  refine A_obj (a_two p) rfl ?_
  walk_at "W"
  refine F_callE F (figures_spec (n := two) (m := 5) (by omega) (by decide)) (by decide) ?_
  walk_at "W"
  refine O_addB (by simp [hp, hq]) ?_
  walk_at "W"
  refine A_obj (a_way p) rfl ?_
  walk_at "W"
  cases b with
  | true =>
    refine if_eq (fun _ => ?_) (fun h => absurd rfl h)
    walk_at "W"
    refine O_addB (by simp [hp, hq]) ?_
    exact ⟨congrArg V.bytes (by simp [entB]), rfl⟩
  | false =>
    refine if_eq (fun h => absurd h wayS_free) (fun _ => ?_)
    walk_at "W"
    refine O_addB (by simp [hp, hq]) ?_
    exact ⟨congrArg V.bytes (by simp [entB]), rfl⟩
def BadE (w : Str) (i j : Int) : Prop := w = "packed" ∨ (w ≠ "packed" ∧ (¬ (0 ≤ i ∧ i ≤ 9999999999) ∨ ¬ (0 ≤ j ∧ j ≤ 65535)))
def XW (H : HM) : Addr → LM → HM → Prop := fun C fs H' => C = 201 ∧ Le H H'
theorem entry_line_bad {w : Str} {i j : Int} (hb : BadE w i j) : CW p 14 (.ref 818) [.obj 737 ["way", "one", "two"] [.str w, .int i, .int j]] H (fun _ _ => False) (XW H) := by
  refine CW_0 (params := ["entry"]) ["entry"] ["CrossFault", "MOST_OFFSET", "MOST_GENERATION", "figures"] [some (.obj 737 ["way", "one", "two"] [.str w, .int i, .int j])] (fun us h => match us, h with | [u], _ => rfl) ?_
  intro c F hTp hL
  walk_at "W"
  refine A_obj (a_way p) rfl ?_
  walk_at "W"
  refine if_eq (fun _ => ?_) (fun hne => ?_)
  · walk_at "W"
    refine Os_cross1 F (by decide) ⟨rfl, Le.refl _⟩
  have hb : ¬ (0 ≤ i ∧ i ≤ 9999999999) ∨ ¬ (0 ≤ j ∧ j ≤ 65535) := hb.elim (fun h => absurd h hne) (·.2)
  have fin : ∀ {X' : XQ} {ρ : LM}, (∀ fs, X' 201 fs ρ H) → Os p c ρ H (fun us => call (.ref 201) us) [.str "an entry has no room in a classic table"] (Rz X' ρ) X' := fun k => Os_cross1 F (by decide) (k _)
  walk_at "W"
  refine A_obj (a_one p) rfl ?_
  walk_at "W"
  have t2 : ¬ (0 ≤ i ∧ i ≤ 9999999999) → True := fun _ => trivial
  refine if_dec (fun h1 => ?_) (fun h1 => ?_)
  · walk_at "W"
    refine if_ndec (fun h2 => ?_) (fun h2 => ?_)
    · walk_at "W"
      exact fin fun fs => ⟨rfl, Le.refl _⟩
    · walk_at "W"
      refine A_obj (a_two p) rfl ?_
      walk_at "W"
      refine if_dec (fun h3 => ?_) (fun h3 => ?_)
      · walk_at "W"
        refine if_ndec (fun h4 => ?_) (fun h4 => absurd ⟨h3, h4⟩ (hb.resolve_left fun k => k ⟨h1, h2⟩))
        walk_at "W"
        exact fin fun fs => ⟨rfl, Le.refl _⟩
      · walk_at "W"
        exact fin fun fs => ⟨rfl, Le.refl _⟩
  · walk_at "W"
    exact fin fun fs => ⟨rfl, Le.refl _⟩
end
end BodyW7
end Group18
section Group19
local macro_rules | `(tactic| walk_at "hv") => `(tactic| first
  | ((show EW _ _ _ _ (eval (Expr.Call (Expr.Name (Str.ofString "runs_of") _) _ _ _) _) _ _); (refine C_fn (by assumption) (by walk_at "gm") (c_runs_of _) ?_))
  | ((show EW _ _ _ _ (eval (Expr.Call (Expr.Name (Str.ofString "len") _) _ _ _) _) _ _); (refine C_bt (by assumption) (by walk_at "gm") (c_len _) ?_))
  | ((show EW _ _ _ _ (eval (Expr.Call (Expr.Name (Str.ofString "sorted") _) _ _ _) _) _ _); (refine C_bt (by assumption) (by walk_at "gm") (c_sorted _) ?_)))
local macro_rules | `(tactic| walk_at "hi") => `(tactic| first
  | refine if_nt ?_
  | refine if_nf ?_)
section BodyW8
abbrev Runs := List (Int × Int)
def stepR (rs : Runs) (n : Int) : Runs := match rs.getLast? with
  | none => [(n, 1)]
  | some x => if n = x.1 + x.2 then rs.dropLast ++ [(x.1, x.2 + 1)] else if x.1 + x.2 < n then rs ++ [(n, 1)] else rs
def runsV (rs : Runs) : List V := rs.map fun x => .tup [.int x.1, .int x.2]
theorem stepR_len (rs : Runs) (n : Int) : (stepR rs n).length ≤ rs.length + 1 := by
  unfold stepR
  cases h : rs.getLast? with
  | none => simp
  | some x =>
    dsimp only
    split
    · simp
    · split <;> simp
theorem foldR_len : ∀ (ks : List Int) (rs : Runs), (ks.foldl stepR rs).length ≤ rs.length + ks.length
  | [], rs => by simp
  | k :: ks, rs => by
    have := foldR_len ks (stepR rs k); have := stepR_len rs k
    simp only [List.foldl_cons, List.length_cons]; omega
theorem runsV_snoc (rs : Runs) (x : Int × Int) : runsV (rs ++ [x]) = runsV rs ++ [.tup [.int x.1, .int x.2]] := by simp [runsV]
theorem stepR_snoc (rs : Runs) (a b n : Int) : stepR (rs ++ [(a, b)]) n = if n = a + b then rs ++ [(a, b + 1)] else if a + b < n then rs ++ [(a, b)] ++ [(n, 1)] else rs ++ [(a, b)] := by
  unfold stepR; rw [List.getLast?_concat, List.dropLast_concat]
section
variable {p : Pm} {H : HM} {a : Addr}
local macro_rules | `(tactic| walk_at "h") => `(tactic| first | exact upd_same .. | assumption | (rw [upd_ne (by first | assumption | (apply Ne.symm; assumption))]; walk_at "h"))
theorem runs_of_spec {es : List (Int × V)} (ha : H a = some (.fdint es)) (h64 : es.length < 64) : CW p 3 (.ref 804) [.ref a] H
    (fun v H' => ∃ (L : Addr) (ks : List Int), H L = none ∧ ks.Perm (es.map (·.1)) ∧ ks.Pairwise (· ≤ ·) ∧ v = .ref L ∧ H' = upd H L (.list (runsV (ks.foldl stepR [])))) NXc := by
  refine CW.dropped (CW_0 (params := ["numbers"]) ["numbers", "runs", "number"] ["sorted"] [some (.ref a), none, none] (fun us h => match us, h with | [u], _ => rfl) ?_)
  intro c F hTp hLc
  walk_at "W"
  intro L hL
  have haL : a ≠ L := ne_of_some ha hL
  walk_at "W"
  refine Os_sorted_dictI (es := es) (by walk_at "h") h64 fun S ks hS hp hs => ?_
  obtain ⟨hSL, hHS⟩ := fresh_of hS
  have hkl : ks.length = es.length := by simpa using hp.length_eq
  refine I_list (upd_same ..) ?_
  rw [upd_upd]
  refine ⟨fun i vals H' => i ≤ ks.length ∧ vals = [some (.ref a), some (.ref L), none] ∧ H' = upd (upd H L (.list (runsV ((ks.take i).foldl stepR [])))) S (.flist (ks.map .int)), _, by walk_at "le", ⟨Nat.zero_le _, rfl, rfl⟩, ?_, ?_⟩
  · rintro i x vals H₁ hx ⟨hi, rfl, rfl⟩
    rw [List.getElem?_map] at hx
    obtain ⟨n, hn, rfl⟩ := Option.map_eq_some_iff.mp hx
    have hil := (List.getElem?_eq_some_iff.mp hn).1
    have hst : (ks.take (i + 1)).foldl stepR [] = stepR ((ks.take i).foldl stepR []) n := by rw [List.take_add_one, hn]; simp
    have hrl := foldR_len (ks.take i) []
    simp only [List.length_nil, List.length_take] at hrl
    have hfin : ∀ {Hx : HM}, Hx = upd (upd H L (.list (runsV (stepR ((ks.take i).foldl stepR []) n)))) S (.flist (ks.map .int)) → i + 1 ≤ ks.length ∧ [some (V.ref a), some (V.ref L), none] = [some (V.ref a), some (V.ref L), none] ∧ Hx = upd (upd H L (.list (runsV ((ks.take (i + 1)).foldl stepR [])))) S (.flist (ks.map .int)) := fun e => ⟨hil, rfl, by rw [hst]; exact e⟩
    generalize hrs : (ks.take i).foldl stepR [] = rs at *
    have oL : upd (upd H L (.list (runsV rs))) S (.flist (ks.map .int)) L = some (.list (runsV rs)) := by walk_at "h"
    have hset : ∀ o, upd (upd (upd H L (.list (runsV rs))) S (.flist (ks.map .int))) L o = upd (upd H L o) S (.flist (ks.map .int)) := fun o => by rw [upd_comm _ _ _ hSL, upd_upd]
    walk_at "W"
    intro b0 hb0
    have hLb : L ≠ b0 := ne_of_some oL hb0
    refine O_neL0 (vs := runsV rs) (by rw [upd_ne hLb]; exact oL) (upd_same ..) ?_
    refine T_bool ?_
    rcases List.eq_nil_or_concat rs with rfl | ⟨rs', ⟨x, y⟩, e⟩
    · refine if_nt ?_
      refine if_f ?_
      refine SW.drop (Le.upd _ hb0) ?_
      walk_at "W"
      intro b1 hb1
      have hLb1 : L ≠ b1 := ne_of_some oL hb1
      refine O_eqL0 (vs := []) (by rw [upd_ne hLb1]; exact oL) (upd_same ..) ?_
      refine T_bool ?_
      refine if_t ?_
      refine SW.drop (Le.upd _ hb1) ?_
      walk_at "W"
      refine G_append oL ⟨.builtin, ?_⟩
      walk_at "W"
      refine Os_append oL (by decide) ?_
      rw [hset]
      walk_at "W"
      exact Turn.nx (F := F) (vals := [_, _, none]) (by walk_at "le") (hfin rfl)
    · have e : rs = rs' ++ [(x, y)] := by simpa using e
      subst e
      have oL2 : upd (upd H L (.list (runsV (rs' ++ [(x, y)])))) S (.flist (ks.map .int)) L = some (.list (runsV rs' ++ [.tup [.int x, .int y]])) := by rw [oL, runsV_snoc]
      have hne : (runsV (rs' ++ [(x, y)])).isEmpty = false := by simp [runsV]
      rw [hne]
      refine if_nf ?_
      refine BW.drop (Le.upd _ hb0) ?_
      walk_at "W"
      have hlast : (runsV rs' ++ [V.tup [.int x, .int y]]).getLast? = some (.tup [.int x, .int y]) := List.getLast?_concat ..
      refine O_last_list oL2 hlast ?_
      walk_at "W"
      refine O_item_tup (v := .int x) (by decide) (by decide) rfl ?_
      walk_at "W"
      refine O_last_list oL2 hlast ?_
      walk_at "W"
      refine O_item_tup (v := .int y) (by decide) (by decide) rfl ?_
      walk_at "W"
      have hst2 := stepR_snoc rs' x y n
      refine if_eq (fun h => ?_) (fun h => ?_)
      · rw [if_pos h] at hst2
        walk_at "W"
        refine O_last_list oL2 hlast ?_
        walk_at "W"
        refine O_item_tup (v := .int x) (by decide) (by decide) rfl ?_
        walk_at "W"
        refine O_last_list oL2 hlast ?_
        walk_at "W"
        refine O_item_tup (v := .int y) (by decide) (by decide) rfl ?_
        walk_at "W"
        refine U_set_last oL2 (by simp [runsV] at hrl ⊢; omega) ?_
        rw [hset]
        walk_at "W"
        exact Turn.nx (F := F) (vals := [_, _, none]) (by walk_at "le") (hfin (by rw [hst2, runsV_snoc]))
      · rw [if_neg h] at hst2
        walk_at "W"
        intro b1 hb1
        have hLb1 : L ≠ b1 := ne_of_some oL hb1
        refine O_eqL0 (vs := runsV (rs' ++ [(x, y)])) (by rw [upd_ne hLb1]; exact oL) (upd_same ..) ?_
        refine T_bool ?_
        rw [hne]
        refine if_f ?_
        refine BW.drop (Le.upd _ hb1) ?_
        walk_at "W"
        refine O_last_list oL2 hlast ?_
        walk_at "W"
        refine O_item_tup (v := .int x) (by decide) (by decide) rfl ?_
        walk_at "W"
        refine O_last_list oL2 hlast ?_
        walk_at "W"
        refine O_item_tup (v := .int y) (by decide) (by decide) rfl ?_
        walk_at "W"
        refine if_dec (fun h2 => ?_) (fun h2 => ?_)
        · rw [if_pos h2] at hst2
          walk_at "W"
          refine G_append oL ⟨.builtin, ?_⟩
          walk_at "W"
          refine Os_append oL (by simp [runsV] at hrl ⊢; omega) ?_
          rw [hset]
          walk_at "W"
          exact Turn.nx (F := F) (vals := [_, _, none]) (by walk_at "le") (hfin (by rw [hst2, runsV_snoc (rs' ++ [(x, y)])]))
        · rw [if_neg h2] at hst2
          walk_at "W"
          exact Turn.nx (F := F) (vals := [_, _, none]) (by walk_at "le") (hfin (by rw [hst2]))
  · rintro vals H₁ ⟨_, rfl, rfl⟩
    rw [List.take_of_length_le (by simp)]
    walk_at "W"
    exact ⟨_, Le.upd _ (by rw [upd_ne hSL]; exact hHS), L, ks, hL, hp, hs, rfl, rfl⟩
end
end BodyW8
end Group19
section BodyP4
def keysT (T : Tab) : List Int := T.map (·.1)
theorem keysT_run : ∀ {es : List EntN} {n : Nat}, ∀ k ∈ keysT (runT n es), (n : Int) ≤ k ∧ k < n + es.length
  | [], n, k, h => by cases h
  | e :: es, n, k, h => by
    rcases List.mem_cons.mp h with rfl | h
    · simp only [List.length_cons]; omega
    · have := keysT_run (es := es) (n := n + 1) k h
      simp only [List.length_cons]; omega
theorem asc_run : ∀ {es : List EntN} {n : Nat}, (keysT (runT n es)).Pairwise (· < ·)
  | [], n => .nil
  | e :: es, n => .cons (fun k hk => by have := keysT_run (es := es) (n := n + 1) k hk; show (n : Int) < k; omega) asc_run
theorem keysT_app (A B : Tab) : keysT (A ++ B) = keysT A ++ keysT B := List.map_append
theorem keysT_flat {r : List Sec} {lo : Nat} (h : SecsOk lo r) : ∀ k ∈ keysT (flatT r), (lo : Int) ≤ k := fun k hk => by
  obtain ⟨e, he, rfl⟩ := List.mem_map.mp hk
  exact flatT_below h e he
theorem asc_flat : ∀ {r : List Sec} {lo : Nat}, SecsOk lo r → (keysT (flatT r)).Pairwise (· < ·)
  | [], lo, _ => .nil
  | s :: r, lo, h => by
    obtain ⟨h1, h2, h3, h4, h5, h6⟩ := h
    rw [flatT, keysT_app]
    refine List.pairwise_append.mpr ⟨asc_run, asc_flat h6, fun a ha b hb => ?_⟩
    have := keysT_run a ha; have := keysT_flat h6 b hb; omega
theorem asc_nodup {l : List Int} (h : l.Pairwise (· < ·)) : l.Nodup := h.imp (fun h => by omega)
theorem asc_le {l : List Int} (h : l.Pairwise (· < ·)) : l.Pairwise (· ≤ ·) := h.imp (fun h => by omega)
theorem sorted_unique : ∀ {a b : List Int}, a.Perm b → a.Pairwise (· ≤ ·) → b.Pairwise (· ≤ ·) → a = b := fun hp ha hb =>
  hp.eq_of_pairwise (le := (· ≤ ·)) (fun a b _ _ h1 h2 => by omega) ha hb
theorem foldR_run (rs : Runs) (a : Int) : ∀ {es : List EntN} {n c : Nat}, (n : Int) = a + c → (keysT (runT n es)).foldl stepR (rs ++ [(a, (c : Int))]) = rs ++ [(a, ((c + es.length : Nat) : Int))]
  | [], n, c, h => by simp [runT, keysT]
  | e :: es, n, c, h => by
    show (keysT (runT (n + 1) es)).foldl stepR (stepR (rs ++ [(a, (c : Int))]) (n : Int)) = _
    rw [stepR_snoc, if_pos h, show ((c : Int) + 1) = ((c + 1 : Nat) : Int) by omega, foldR_run rs a (by omega)]
    simp only [List.length_cons]; rw [show c + 1 + es.length = c + (es.length + 1) by omega]
theorem foldR_flat : ∀ {r : List Sec} {lo : Nat} {rs : Runs}, SecsOk lo r → (∀ x, rs.getLast? = some x → x.1 + x.2 < (lo : Int)) →
    (keysT (flatT r)).foldl stepR rs = rs ++ r.map fun s => ((s.1 : Int), ((s.2.length : Nat) : Int))
  | [], lo, rs, _, _ => by simp [flatT, keysT]
  | (n, []) :: r, lo, rs, h, _ => absurd rfl h.2.1
  | (n, e :: es) :: r, lo, rs, h, hl => by
    obtain ⟨h1, h2, h3, h4, h5, h6⟩ := h
    have hs : stepR rs (n : Int) = rs ++ [((n : Int), ((1 : Nat) : Int))] := by
      unfold stepR
      cases q : rs.getLast? with
      | none => rw [List.getLast?_eq_none_iff.mp q]; rfl
      | some x => have := hl x q; dsimp only at h1 ⊢; rw [if_neg (by omega), if_pos (by omega)]; rfl
    rw [flatT, keysT_app, List.foldl_append]
    show List.foldl stepR ((keysT (runT (n + 1) es)).foldl stepR (stepR rs (n : Int))) _ = _
    rw [hs, foldR_run rs n (by omega), foldR_flat h6 (fun x hx => by
      rw [List.getLast?_concat] at hx; cases hx
      simp only [List.length_cons]; omega)]
    simp only [List.map_cons, List.append_assoc, List.length_cons, List.cons_append, List.nil_append]
    rw [show 1 + es.length = es.length + 1 by omega]
theorem runT_get : ∀ {es : List EntN} {n j : Nat} {e : EntN}, es[j]? = some e → (((n + j : Nat) : Int), entV e) ∈ runT n es
  | [], n, j, e, h => by simp at h
  | x :: es, n, 0, e, h => by simp at h; subst h; exact .head _
  | x :: es, n, j + 1, e, h => .tail _ (by rw [show n + (j + 1) = n + 1 + j by omega]; exact runT_get (by simpa using h))
theorem flatT_mem {r : List Sec} {i : Nat} {s : Sec} (h : r[i]? = some s) : ∀ x ∈ runT s.1 s.2, x ∈ flatT r := by
  induction r generalizing i with
  | nil => simp at h
  | cons s' r ih =>
    cases i with
    | zero => simp at h; subst h; exact fun x hx => List.mem_append_left _ hx
    | succ i => exact fun x hx => List.mem_append_right _ (ih (by simpa using h) x hx)
theorem SecsOk.get {r : List Sec} {lo i : Nat} {s : Sec} (h : SecsOk lo r) (hs : r[i]? = some s) : (∀ e ∈ s.2, EntOk e) ∧ s.1 < 10 ^ 20 ∧ s.2.length ≤ 50 := by
  induction r generalizing i lo with
  | nil => simp at hs
  | cons s' r ih =>
    obtain ⟨h1, h2, h3, h4, h5, h6⟩ := h
    cases i with
    | zero => simp at hs; subst hs; exact ⟨h3, h4, h5⟩
    | succ i => exact ih h6 (by simpa using hs)
def secLines (s : Sec) : List (List UInt8) := (digB s.1 ++ [32] ++ digB s.2.length ++ [10]) :: s.2.map fun e => entB e ++ [32, 10]
def wparts (r : List Sec) : List (List UInt8) := r.flatMap secLines
theorem linesB_map : ∀ (es : List EntN) (t : Nat), linesB (fun _ => [32, 10]) t es = (es.map fun e => entB e ++ [32, 10]).flatten
  | [], t => rfl
  | e :: es, t => by rw [linesB, linesB_map es]; simp
theorem wparts_flat : ∀ (r : List Sec) (t : Nat), (wparts r).flatten = secsB (fun _ => [32, 10]) t r
  | [], t => rfl
  | s :: r, t => by
    have ih := wparts_flat r (t + s.2.length)
    rw [secsB, ← ih, secB, linesB_map]
    simp [wparts, secLines]
theorem runT_len : ∀ (es : List EntN) (n : Nat), (runT n es).length = es.length
  | [], _ => rfl
  | e :: es, n => by simp [runT, runT_len es]
theorem wparts_len : ∀ {r : List Sec}, (∀ s ∈ r, s.2 ≠ []) → (wparts r).length ≤ 2 * (flatT r).length
  | [], _ => by simp [wparts]
  | s :: r, h => by
    have ih := wparts_len (r := r) fun s hs => h s (.tail _ hs)
    have h0 : 0 < s.2.length := List.length_pos_iff.mpr (h s (.head _))
    simp only [wparts, flatT, List.flatMap_cons, List.length_append, secLines, List.length_cons, List.length_map, runT_len] at ih ⊢
    omega
theorem SecsOk.ne : ∀ {r : List Sec} {lo : Nat}, SecsOk lo r → ∀ s ∈ r, s.2 ≠ []
  | [], _, _, s, hs => by cases hs
  | s' :: r, lo, h, s, hs => by
    rcases List.mem_cons.mp hs with rfl | hs
    · exact h.2.1
    · exact SecsOk.ne h.2.2.2.2.2 s hs
theorem joinB_nil (bs : List (List UInt8)) : joinB [] bs = bs.flatten := by
  cases bs with
  | nil => rfl
  | cons b bs => simp [joinB]
theorem foldl_len : ∀ (bs : List (List UInt8)) (n : Nat), bs.foldl (· + ·.length) n = n + bs.flatten.length
  | [], n => by simp
  | b :: bs, n => by rw [List.foldl_cons, foldl_len bs]; simp; omega
end BodyP4
section Group20
local macro_rules | `(tactic| walk_at "hv") => `(tactic| first
  | ((show EW _ _ _ _ (eval (Expr.Call (Expr.Name (Str.ofString "write_object") _) _ _ _) _) _ _); (refine C_fn (by assumption) (by walk_at "gm") (c_write_object _) ?_))
  | ((show EW _ _ _ _ (eval (Expr.Call (Expr.Name (Str.ofString "runs_of") _) _ _ _) _) _ _); (refine C_fn (by assumption) (by walk_at "gm") (c_runs_of _) ?_))
  | ((show EW _ _ _ _ (eval (Expr.Call (Expr.Name (Str.ofString "entry_line") _) _ _ _) _) _ _); (refine C_fn (by assumption) (by walk_at "gm") (c_entry_line _) ?_))
  | ((show EW _ _ _ _ (eval (Expr.Call (Expr.Name (Str.ofString "len") _) _ _ _) _) _ _); (refine C_bt (by assumption) (by walk_at "gm") (c_len _) ?_))
  | ((show EW _ _ _ _ (eval (Expr.Call (Expr.Name (Str.ofString "str") _) _ _ _) _) _ _); (refine C_bt (by assumption) (by walk_at "gm") (c_str _) ?_))
  | ((show EW _ _ _ _ (eval (Expr.Call (Expr.Name (Str.ofString "range") _) _ _ _) _) _ _); (refine C_bt (by assumption) (by walk_at "gm") (c_range _) ?_)))
local macro_rules | `(tactic| walk_at "hr") => `(tactic| first
  | (refine Os_range1 ?_)
  | (refine Os_range2 ?_))
local macro_rules | `(tactic| walk_at "hi") => `(tactic| first
  | refine if_nt ?_
  | refine if_nf ?_)
section BodyW9
theorem gva_dT_mem {T : Tab} {k : Int} {e : Ent} (nd : (keysT T).Nodup) (h : (k, e) ∈ T) : gva (dT T) k = some (entO e) := by
  obtain ⟨i, hi⟩ := List.getElem?_of_mem h
  refine gva_nodup (i := i) ?_ (by unfold dT; rw [List.getElem?_map, hi]; rfl)
  rw [dT, List.map_map]; exact nd
def wcB (r : List Sec) (es : TE) : List UInt8 := xrw ++ [10] ++ secsB (fun _ => [32, 10]) 0 r ++ (trw ++ [10] ++ dictB es ++ [10])
section
variable {p : Pm} {H : HM} {E D : Addr} {es : TE} {r : List Sec}
local macro_rules | `(tactic| walk_at "h") => `(tactic| first | exact upd_same .. | assumption | (rw [upd_ne (by first | assumption | (apply Ne.symm; assumption))]; walk_at "h"))
theorem write_classic_spec (hr : SecsOk 0 r) (h64 : (flatT r).length < 64) (he : TEok es) (hE : H E = some (.fdint (dT (flatT r)))) (hD : H D = some (.fdstr (tE es))) (hz : (wcB r es).length ≤ 1000000) (hz1 : (dictB es).length ≤ 1000)
    (hz2 : (dictParts es).foldl (· + ·.length) (1 * ((dictParts es).length - 1)) ≤ 16000000) : CWd p 60 (.ref 825) [.ref E, .ref D] H (.bytes (wcB r es)) H := by
  refine CW.dropped (CW_0 (params := ["entries", "trailer"]) ["entries", "trailer", "parts", "first", "count", "number"] ["runs_of", "str", "range", "entry_line", "write_object"] [some (.ref E), some (.ref D), none, none, none, none] (fun us h => match us, h with | [u, v], _ => rfl) ?_)
  intro c F hTp hLc
  have hasc := asc_flat hr
  have hnd := asc_nodup hasc
  walk_at "W"
  intro P hP
  have hEP : E ≠ P := ne_of_some hE hP
  have hDP : D ≠ P := ne_of_some hD hP
  walk_at "W"
  refine F.call (runs_of_spec (es := dT (flatT r)) (by walk_at "h") (by simpa [dT] using h64)) (by decide) ?_ (fun _ _ _ h => h.elim)
  rintro v H' ⟨L, ks, hL, hpm, hks, rfl, rfl⟩
  obtain ⟨hLP, hHL⟩ := fresh_of hL
  have hEL : E ≠ L := ne_of_some hE hHL
  have hDL : D ≠ L := ne_of_some hD hHL
  have hk : ks = keysT (flatT r) := sorted_unique (by rw [dT, List.map_map] at hpm; exact hpm) hks (asc_le hasc)
  subst hk
  rw [foldR_flat hr (by simp), List.nil_append]
  refine I_list (upd_same ..) ?_
  rw [upd_upd]
  have hwl := wparts_len hr.ne
  refine ⟨fun i vals H' => i ≤ r.length ∧ vals = [some (.ref E), some (.ref D), some (.ref P), none, none, none] ∧ H' = upd (upd H P (.list (((xrw ++ [10]) :: wparts (r.take i)).map .bytes))) L (.flist (runsV (r.map fun s => ((s.1 : Int), ((s.2.length : Nat) : Int))))), _, by walk_at "le", ⟨Nat.zero_le _, rfl, rfl⟩, ?_, ?_⟩
  · rintro i x vals H₁ hx ⟨hi, rfl, rfl⟩
    rw [runsV, List.map_map, List.getElem?_map] at hx
    obtain ⟨s, hs, rfl⟩ := Option.map_eq_some_iff.mp hx
    obtain ⟨ho, h20, h50⟩ := hr.get hs
    have hil := (List.getElem?_eq_some_iff.mp hs).1
    have hsl : 0 < s.2.length := List.length_pos_iff.mpr (hr.ne s (List.mem_of_getElem? hs))
    generalize hLV : AObj.flist (runsV (r.map fun s => ((s.1 : Int), ((s.2.length : Nat) : Int)))) = LV
    have hd1 : (digN s.1).length ≤ 20 := digN_len (by decide) h20
    have hd2 : (digN s.2.length).length ≤ 20 := digN_len (by decide) (by omega)
    have hd1' : (digB s.1).length ≤ 20 := by simpa [digB] using hd1
    have hd2' : (digB s.2.length).length ≤ 20 := by simpa [digB] using hd2
    have hwt : (wparts (r.take i)).length ≤ (wparts r).length := by
      have : wparts r = wparts (r.take i) ++ wparts (r.drop i) := by rw [wparts, wparts, wparts, ← List.flatMap_append, List.take_append_drop]
      rw [this]; simp
    have hst : wparts (r.take (i + 1)) = wparts (r.take i) ++ secLines s := by rw [List.take_add_one, hs]; simp [wparts]
    have hset : ∀ o o', upd (upd (upd H P o) L LV) P o' = upd (upd H P o') L LV := fun o o' => by rw [upd_comm _ _ _ hLP, upd_upd]
    dsimp only [Function.comp]
    walk_at "W"
    refine G_append (by walk_at "h") ⟨.builtin, ?_⟩
    walk_at "W"
    refine Os_str_int (log2_ok (Nat.lt_of_lt_of_le h20 (by decide +kernel))) ?_
    rw [digT_nat]
    refine G_encode ⟨.builtin, ?_⟩
    walk_at "W"
    refine Os_encode (by omega) (fun k hk => by have := digN_mem hk; omega) ?_
    walk_at "W"
    refine O_addB (by simp; omega) ?_
    walk_at "W"
    refine Os_str_int (log2_ok (Nat.lt_of_lt_of_le (show s.2.length < 10 ^ 20 by omega) (by decide +kernel))) ?_
    rw [digT_nat]
    refine G_encode ⟨.builtin, ?_⟩
    walk_at "W"
    refine Os_encode (by omega) (fun k hk => by have := digN_mem hk; omega) ?_
    walk_at "W"
    refine O_addB (by simp; omega) ?_
    walk_at "W"
    refine O_addB (by simp; omega) ?_
    walk_at "W"
    refine Os_append (by walk_at "h") (by simp; omega) ?_
    rw [hset]
    walk_at "W"
    refine I_rngN (m := s.2.length) rfl ?_
    refine ⟨fun j vals H' => j ≤ s.2.length ∧ vals = [some (.ref E), some (.ref D), some (.ref P), some (.int (s.1 : Int)), some (.int ((s.2.length : Nat) : Int)), none] ∧ H' = upd (upd H P (.list (((xrw ++ [10]) :: wparts (r.take i) ++ (digB s.1 ++ [32] ++ digB s.2.length ++ [10]) :: (s.2.take j).map fun e => entB e ++ [32, 10]).map .bytes))) L LV, _, by walk_at "le", ⟨Nat.zero_le _, rfl, by simp [digB]⟩, ?_, ?_⟩
    · rintro j x vals H₁ hx ⟨hj, rfl, rfl⟩
      obtain ⟨hjm, rfl⟩ := rng_get hx
      obtain ⟨e, hej⟩ : ∃ e, s.2[j]? = some e := ⟨_, List.getElem?_eq_getElem hjm⟩
      have heo := ho e (List.mem_of_getElem? hej)
      have hgv : gva (dT (flatT r)) ((s.1 : Int) + (j : Int)) = some (entO (entV e)) := gva_dT_mem hnd (flatT_mem hs _ (by have := runT_get (n := s.1) hej; rwa [Int.natCast_add] at this))
      walk_at "W"
      refine G_append (by walk_at "h") ⟨.builtin, ?_⟩
      walk_at "W"
      refine O_item_fdint (es := dT (flatT r)) (by walk_at "h") hgv ?_
      walk_at "W"
      refine F_callE F (entry_line_good heo) (by decide) ?_
      walk_at "W"
      refine Os_append (by walk_at "h") (by simp; omega) ?_
      rw [hset]
      walk_at "W"
      refine Turn.nx (F := F) (vals := [_, _, _, _, _, none]) (by walk_at "le") ⟨hjm, rfl, ?_⟩
      rw [List.take_add_one, hej]; simp
    · rintro vals H₁ ⟨_, rfl, rfl⟩
      walk_at "W"
      refine Turn.nx (F := F) (vals := [_, _, _, none, none, none]) (by walk_at "le") ⟨hil, rfl, ?_⟩
      rw [hst, rng_len, List.take_length]; simp [secLines]
  · rintro vals H₁ ⟨_, rfl, rfl⟩
    rw [List.take_of_length_le (by simp [runsV])]
    generalize hLV : AObj.flist (runsV (r.map fun s => ((s.1 : Int), ((s.2.length : Nat) : Int)))) = LV
    walk_at "W"
    refine G_append (by walk_at "h") ⟨.builtin, ?_⟩
    walk_at "W"
    refine F_callE F (write_object_spec he (by walk_at "h") (by omega) hz2) (by decide) ?_
    walk_at "W"
    refine O_addB (by simp; omega) ?_
    walk_at "W"
    refine O_addB (by simp; omega) ?_
    walk_at "W"
    refine Os_append (by walk_at "h") (by simp; omega) ?_
    rw [upd_comm _ _ _ hLP, upd_upd]
    walk_at "W"
    refine G_join ⟨.builtin, ?_⟩
    walk_at "W"
    have hjoin : joinB [] ((xrw ++ [10]) :: wparts r ++ [trw ++ [10] ++ dictB es ++ [10]]) = wcB r es := by
      rw [joinB_nil]; simp [wcB, wparts_flat r 0]
    refine Os_join (x := []) (bs := (xrw ++ [10]) :: wparts r ++ [trw ++ [10] ++ dictB es ++ [10]]) (by rw [upd_ne hLP.symm, upd_same]; simp [trw]) (by rw [hjoin]; omega) ?_ ?_
    · rw [foldl_len, ← joinB_nil, hjoin]; simp; omega
    · rw [hjoin]
      exact ⟨_, (Le.upd _ hP).trans (Le.upd _ (by rw [upd_ne hLP]; exact hHL)), rfl, rfl⟩
end
end BodyW9
section BodyW10
section
variable {p : Pm} {H : HM} {E : Addr} {v2 : V} {w : Str} {i1 j1 : Int}
local macro_rules | `(tactic| walk_at "h") => `(tactic| first | exact upd_same .. | assumption | (rw [upd_ne (by first | assumption | (apply Ne.symm; assumption))]; walk_at "h"))
theorem XW.le {H H' : HM} (k : Le H H') {C : Addr} {fs : LM} {H'' : HM} (h : XW H' C fs H'') : XW H C fs H'' := ⟨h.1, k.trans h.2⟩
theorem write_classic_bad (hb : BadE w i1 j1) (hE : H E = some (.fdint [(1, .obj 737 ["way", "one", "two"] [.str w, .int i1, .int j1])])) : CW p 60 (.ref 825) [.ref E, v2] H (fun _ _ => False) (XW H) := by
  refine CW_0 (params := ["entries", "trailer"]) ["entries", "trailer", "parts", "first", "count", "number"] ["runs_of", "str", "range", "entry_line", "write_object"] [some (.ref E), some v2, none, none, none, none] (fun us h => match us, h with | [u, v], _ => rfl) ?_
  intro c F hTp hLc
  walk_at "W"
  intro P hP
  have hEP : E ≠ P := ne_of_some hE hP
  walk_at "W"
  refine F.call (runs_of_spec (es := [(1, .obj 737 ["way", "one", "two"] [.str w, .int i1, .int j1])]) (by walk_at "h") (by simp)) (by decide) ?_ (fun _ _ _ h => h.elim)
  rintro v H' ⟨L, ks, hL, hpm, hks, rfl, rfl⟩
  obtain ⟨hLP, hHL⟩ := fresh_of hL
  have hEL : E ≠ L := ne_of_some hE hHL
  have hk : ks = [1] := List.perm_singleton.mp hpm
  subst hk
  refine I_list (upd_same ..) ?_
  rw [upd_upd]
  generalize hLV : AObj.flist _ = LV
  have hle : ∀ o, Le H (upd (upd H P o) L LV) := fun o => (Le.upd _ hP).trans (Le.upd _ (by rw [upd_ne hLP]; exact hHL))
  have hset : ∀ o o', upd (upd (upd H P o) L LV) P o' = upd (upd H P o') L LV := fun o o' => by rw [upd_comm _ _ _ hLP, upd_upd]
  refine ⟨fun i vals H' => i = 0 ∧ vals = [some (.ref E), some v2, some (.ref P), none, none, none] ∧ H' = upd (upd H P (.list [.bytes [120, 114, 101, 102, 10]])) L LV, _, by walk_at "le", ⟨rfl, rfl, rfl⟩, ?_, ?_⟩
  · rintro i x vals H₁ hx ⟨rfl, rfl, rfl⟩
    obtain rfl : V.tup [.int 1, .int 1] = x := Option.some.inj hx
    walk_at "W"
    refine G_append (by walk_at "h") ⟨.builtin, ?_⟩
    walk_at "W"
    refine Os_str_int (by decide) ?_
    refine G_encode ⟨.builtin, ?_⟩
    walk_at "W"
    refine Os_encode (by decide) (by decide) ?_
    walk_at "W"
    refine O_addB (by decide) ?_
    walk_at "W"
    refine Os_str_int (by decide) ?_
    refine G_encode ⟨.builtin, ?_⟩
    walk_at "W"
    refine Os_encode (by decide) (by decide) ?_
    walk_at "W"
    refine O_addB (by decide) ?_
    walk_at "W"
    refine O_addB (by decide) ?_
    walk_at "W"
    refine Os_append (by walk_at "h") (by decide) ?_
    rw [hset]
    generalize hPV : AObj.list _ = PV
    walk_at "W"
    refine I_rngN (m := 1) rfl ?_
    refine ⟨fun j vals H' => j = 0 ∧ vals = [some (.ref E), some v2, some (.ref P), some (.int 1), some (.int 1), none] ∧ H' = upd (upd H P PV) L LV, _, by walk_at "le", ⟨rfl, rfl, rfl⟩, ?_, ?_⟩
    · rintro j x vals H₁ hx ⟨rfl, rfl, rfl⟩
      obtain ⟨hjm, rfl⟩ := rng_get hx
      subst hPV
      walk_at "W"
      refine G_append (by walk_at "h") ⟨.builtin, ?_⟩
      walk_at "W"
      refine O_item_fdint (by walk_at "h") rfl ?_
      walk_at "W"
      refine F.call (entry_line_bad hb) (by decide) (fun _ _ h => h.elim) (fun C fs H' h => ?_)
      exact h.le (hle _)
    · rintro vals H₁ ⟨h, _⟩
      simp at h
  · rintro vals H₁ ⟨h, _⟩
    simp [runsV, stepR] at h
end
end BodyW10
end Group20
section Group21
local macro_rules | `(tactic| walk_at "hv") => `(tactic| first
  | ((show EW _ _ _ _ (eval (Expr.Call (Expr.Name (Str.ofString "kind_of") _) _ _ _) _) _ _); (refine C_fn (by assumption) (by walk_at "gm") (c_kind_of _) ?_))
  | ((show EW _ _ _ _ (eval (Expr.Call (Expr.Name (Str.ofString "told_plain") _) _ _ _) _) _ _); (refine C_fn (by assumption) (by walk_at "gm") (c_told_plain _) ?_))
  | ((show EW _ _ _ _ (eval (Expr.Call (Expr.Name (Str.ofString "told") _) _ _ _) _) _ _); (refine C_fn (by assumption) (by walk_at "gm") (c_told _) ?_))
  | ((show EW _ _ _ _ (eval (Expr.Call (Expr.Name (Str.ofString "len") _) _ _ _) _) _ _); (refine C_bt (by assumption) (by walk_at "gm") (c_len _) ?_))
  | ((show EW _ _ _ _ (eval (Expr.Call (Expr.Name (Str.ofString "bytes") _) _ _ _) _) _ _); (refine C_bt (by assumption) (by walk_at "gm") (c_bytes _) ?_))
  | ((show EW _ _ _ _ (eval (Expr.Call (Expr.Name (Str.ofString "tuple") _) _ _ _) _) _ _); (refine C_bt (by assumption) (by walk_at "gm") (c_tuple _) ?_))
  | ((show EW _ _ _ _ (eval (Expr.Call (Expr.Name (Str.ofString "sorted") _) _ _ _) _) _ _); (refine C_bt (by assumption) (by walk_at "gm") (c_sorted _) ?_)))
local macro_rules | `(tactic| walk_at "hi") => `(tactic| first
  | refine if_nt ?_
  | refine if_nf ?_)
section BodyT1
def TV.told : TV → V
  | .i n => .tup [.str "int", .int (n : Int)]
  | .r n g => .tup [.str "ref", .int (n : Int), .int (g : Int)]
section
variable {p : Pm} {H : HM} {a : Addr}
theorem told_plain_spec (t : TV) : CWd p 1 (.ref 498) [.str t.kind, t.v] H t.told H := by
  refine CW_0 (params := ["kind", "value"]) ["kind", "value"] ["bytes"] [some (.str t.kind), some t.v] (fun us h => match us, h with | [u, v], _ => rfl) ?_
  intro c F hTp hL
  cases t with
  | i n =>
    simp only [TV.kind, TV.v, TV.told]
    walk_at "W"
    refine if_eq (fun h => absurd h (by decide)) (fun _ => ?_)
    walk_at "W"
    refine if_eq (fun h => absurd h (by decide)) (fun _ => ?_)
    walk_at "W"
    refine if_eq (fun _ => ?_) (fun h => absurd rfl h)
    walk_at "W"
    exact ⟨rfl, rfl⟩
  | r n g =>
    simp only [TV.kind, TV.v, TV.told]
    walk_at "W"
    refine if_eq (fun h => absurd h (by decide)) (fun _ => ?_)
    walk_at "W"
    refine if_eq (fun h => absurd h (by decide)) (fun _ => ?_)
    walk_at "W"
    refine if_eq (fun h => absurd h (by decide)) (fun _ => ?_)
    walk_at "W"
    refine if_eq (fun h => absurd h (by decide)) (fun _ => ?_)
    walk_at "W"
    refine if_eq (fun h => absurd h (by decide)) (fun _ => ?_)
    walk_at "W"
    refine if_eq (fun h => absurd h (by decide)) (fun _ => ?_)
    walk_at "W"
    refine A_obj (a_number p) rfl ?_
    walk_at "W"
    refine A_obj (a_generation p) rfl ?_
    walk_at "W"
    exact ⟨rfl, rfl⟩
theorem told_tv (t : TV) : CWd p 5 (.ref 503) [t.v] H t.told H := by
  refine CW.dropped (CW_cellP (n := 4) (y := "value") ["kind"] ["kind_of", "tuple", "told_plain"] [none] (fun _ => rfl) (fun _ => rfl) fun c ca F hTp hL C hca hne => ?_)
  have oc : (upd H ca (.cell (some t.v))) ca = some (.cell (some t.v)) := upd_same ..
  walk_at "W"
  refine Cl_ F C oc ?_
  walk_at "W"
  refine F_callE F (kind_tv t) (by decide) ?_
  have k1 : t.kind ≠ "array" := by cases t <;> (simp only [TV.kind]; decide)
  have k2 : t.kind ≠ "dict" := by cases t <;> (simp only [TV.kind]; decide)
  have k3 : t.kind ≠ "stream" := by cases t <;> (simp only [TV.kind]; decide)
  walk_at "W"
  refine if_eq (fun h => absurd h k1) (fun _ => ?_)
  walk_at "W"
  refine if_eq (fun h => absurd h k2) (fun _ => ?_)
  walk_at "W"
  refine if_eq (fun h => absurd h k3) (fun _ => ?_)
  walk_at "W"
  refine Cl_ F C oc ?_
  walk_at "W"
  refine F_callE F (told_plain_spec t) (by decide) ?_
  walk_at "W"
  exact ⟨_, Le.upd _ hca, rfl, rfl⟩
def sizeN : List Nat := [83, 105, 122, 101]
def rootN : List Nat := [82, 111, 111, 116]
def trE (n g : Nat) : TE := [(sizeN, .i n), (rootN, .r g 0)]
def trV (n g : Nat) : V := .tup [.str "dict", .tup [.str (tx rootN), .tup [.str "ref", .int (g : Int), .int 0]], .tup [.str (tx sizeN), .tup [.str "int", .int (n : Int)]]]
theorem two_keys {ks : List Str} (hp : ks.Perm [tx sizeN, tx rootN]) (hs : PyProof.Rows.sortedS ks = true) : ks = [tx rootN, tx sizeN] := by
  have hl : ks.length = 2 := hp.length_eq
  match ks, hl with
  | [x, y], _ =>
    have hx : x ∈ [tx sizeN, tx rootN] := hp.mem_iff.mp (.head _)
    rcases List.mem_cons.mp hx with rfl | hx
    · have := List.perm_singleton.mp ((List.perm_cons _).mp hp)
      cases this
      exact absurd hs (by decide)
    · have hx := List.mem_singleton.mp hx
      subst hx
      have hp2 := hp.trans (List.Perm.swap (tx rootN) (tx sizeN) [])
      have := List.perm_singleton.mp ((List.perm_cons _).mp hp2)
      cases this; rfl
theorem told_dict {n g : Nat} (ha : H a = some (.fdstr (tE (trE n g)))) : CWd p 12 (.ref 503) [.ref a] H (trV n g) H := by
  refine CW.dropped (CW_cellP (n := 11) (y := "value") ["kind"] ["kind_of", "tuple", "told_plain", "sorted"] [none] (fun _ => rfl) (fun _ => rfl) fun c ca F hTp hL C hca hne => ?_)
  have hac : a ≠ ca := ne_of_some ha hca
  have oa : (upd H ca (.cell (some (.ref a)))) a = some (.fdstr (tE (trE n g))) := by rw [upd_ne hac]; exact ha
  have oc : (upd H ca (.cell (some (.ref a)))) ca = some (.cell (some (.ref a))) := upd_same ..
  walk_at "W"
  refine Cl_ F C oc ?_
  walk_at "W"
  refine F_callE F (kind_dict (es := tE (trE n g)) oa) (by decide) ?_
  walk_at "W"
  refine if_eq (fun h => absurd h (by decide)) (fun _ => ?_)
  walk_at "W"
  refine if_eq (fun _ => ?_) (fun h => absurd rfl h)
  walk_at "W"
  refine E_ListComp (cl := [("value", ca)]) (closure_of (by simp [cellsOf, C.cell])) ?_ F.L
  walk_at "W"
  refine Cl_ F C oc ?_
  walk_at "W"
  refine Os_sorted_dictS oa (by simp [tE, trE]) fun S ks hS hp hs => ?_
  have hks := two_keys (by simpa [tE, trE] using hp) hs
  subst hks
  have hSc : ca ≠ S := ne_of_some oc hS
  have hSa : a ≠ S := ne_of_some oa hS
  refine I_list (upd_same ..) ?_
  rw [upd_upd]
  refine ⟨fun i acc H₃ => i ≤ 2 ∧ acc = [.tup [.str (tx rootN), .tup [.str "ref", .int (g : Int), .int 0]], .tup [.str (tx sizeN), .tup [.str "int", .int (n : Int)]]].take i ∧ H₃ = upd (upd H ca (.cell (some (.ref a)))) S (.flist ([tx rootN, tx sizeN].map .str)), ⟨by simp, ⟨by decide, rfl, rfl⟩, fun i acc H₃ b ⟨_, _, h⟩ hb => by rw [h]; exact hb, ?_⟩, ?_⟩
  · rintro C' i y acc H₃ hC hy ⟨hi, rfl, rfl⟩ hHC
    obtain ⟨k, t, rfl, hg, hi2, htk⟩ : ∃ k t, y = .str k ∧ gva (tE (trE n g)) k = some (TV.v t) ∧ i < 2 ∧ ([V.tup [.str (tx rootN), .tup [.str "ref", .int (g : Int), .int 0]], .tup [.str (tx sizeN), .tup [.str "int", .int (n : Int)]]].take i ++ [V.tup [.str k, t.told]]) = [V.tup [.str (tx rootN), .tup [.str "ref", .int (g : Int), .int 0]], .tup [.str (tx sizeN), .tup [.str "int", .int (n : Int)]]].take (i + 1) := by
      match i, hy with
      | 0, h => exact ⟨tx rootN, .r g 0, (Option.some.inj h).symm, gva_nodup (i := 1) (by simp [tE, trE]; decide) rfl, by decide, rfl⟩
      | 1, h => exact ⟨tx sizeN, .i n, (Option.some.inj h).symm, gva_nodup (i := 0) (by simp [tE, trE]; decide) rfl, by decide, rfl⟩
    refine U1.inComp F hC ["key"] ["told"] [none] fun F' ce => ?_
    have C2 := ce _ _ C rfl rfl
    walk_at "W"
    show BW _ _ _ _ _ _ _
    walk_at "W"
    refine Cl_ F' C2 (by rw [upd_ne hSc]; exact oc) ?_
    walk_at "W"
    refine O_item_fdstr (by rw [upd_ne hSa]; exact oa) hg ?_
    walk_at "W"
    refine O_isnot_none t.con ?_
    rw [t.nn]
    walk_at "W"
    refine Cl_ F' C2 (by rw [upd_ne hSc]; exact oc) ?_
    walk_at "W"
    refine O_item_fdstr (by rw [upd_ne hSa]; exact oa) hg ?_
    walk_at "W"
    refine F_callE F' (told_tv t) (by decide) ?_
    walk_at "W"
    exact ⟨hi2, htk, rfl⟩
  · rintro acc H₃ D ⟨hl, rfl, rfl⟩ hD hal
    obtain ⟨h1, hD⟩ := fresh_of hD
    obtain ⟨h2, hD⟩ := fresh_of hD
    walk_at "W"
    refine Os_tuple_list (upd_same ..) (by simp) ?_
    walk_at "W"
    refine O_addT (by simp) (by simp) (by simp) ?_
    exact ⟨_, (Le.upd _ hca).trans ((Le.upd _ hS).trans (Le.upd _ (by rw [upd_ne h1, upd_ne h2]; exact hD))), rfl, rfl⟩
end
end BodyT1
end Group21
section BodyP5
def flatN : List Sec → List (Nat × EntN)
  | [] => []
  | s :: r => (s.2.zipIdx s.1).map (fun x => (x.2, x.1)) ++ flatN r
def stepO (M : Nat → Nat) (ends : Nat → List UInt8) (st : List UInt8 × Int × Nat) (x : Nat × EntN) : List UInt8 × Int × Nat :=
  ((if (x.1 : Int) ≠ st.2.1 + 1 ∨ st.2.1 = -1 then st.1 ++ digB x.1 ++ [32] ++ digB (M x.1) ++ [10] else st.1) ++ entB x.2 ++ ends st.2.2, (x.1 : Int), st.2.2 + 1)
theorem runT_N : ∀ (es : List EntN) (n : Nat), runT n es = ((es.zipIdx n).map fun x => (x.2, x.1)).map fun x => ((x.1 : Int), entV x.2)
  | [], n => rfl
  | e :: es, n => by rw [runT, runT_N es]; rfl
theorem flatT_N : ∀ (r : List Sec), flatT r = (flatN r).map fun x => ((x.1 : Int), entV x.2)
  | [] => rfl
  | s :: r => by rw [flatT, flatN, List.map_append, runT_N, flatT_N r]
theorem has_iff {T : Tab} {k : Int} : has T k = true ↔ k ∈ keysT T := by
  unfold has keysT
  simp [List.any_eq_true]
theorem has_no {T : Tab} {k : Int} (h : k ∉ keysT T) : has T k = false := by
  cases q : has T k with
  | false => rfl
  | true => exact absurd (has_iff.mp q) h
theorem keysT_run_mem : ∀ {es : List EntN} {n : Nat} {k : Int}, (n : Int) ≤ k → k < n + es.length → k ∈ keysT (runT n es)
  | [], n, k, h1, h2 => by simp at h2; omega
  | e :: es, n, k, h1, h2 => by
    by_cases q : k = n
    · subst q; exact .head _
    · exact .tail _ (keysT_run_mem (es := es) (n := n + 1) (by omega) (by simp only [List.length_cons] at h2; omega))
def Mr : List Sec → Nat → Nat
  | [], _ => 1
  | s :: r, k => if k < s.1 + s.2.length then s.1 + s.2.length - k else Mr r k
theorem Mr_has : ∀ {r : List Sec} {lo k : Nat}, SecsOk lo r → (k : Int) ∈ keysT (flatT r) → 1 ≤ Mr r k ∧ Mr r k ≤ 50 ∧ (∀ j < Mr r k, has (flatT r) ((k : Int) + (j : Int)) = true) ∧ has (flatT r) ((k : Int) + (Mr r k : Int)) = false
  | [], lo, k, _, hk => by cases hk
  | s :: r, lo, k, h, hk => by
    obtain ⟨h1, h2, h3, h4, h5, h6⟩ := h
    rw [flatT, keysT_app] at hk
    have htl := fun q hq => keysT_flat h6 q hq
    have hrn := fun q hq => keysT_run (es := s.2) (n := s.1) q hq
    rcases List.mem_append.mp hk with hk | hk
    · have := hrn _ hk
      have hM : Mr (s :: r) k = s.1 + s.2.length - k := by rw [Mr, if_pos (by omega)]
      rw [hM]
      refine ⟨by omega, by omega, fun j hj => has_iff.mpr ?_, has_no fun q => ?_⟩
      · rw [flatT, keysT_app]; exact List.mem_append_left _ (keysT_run_mem (by omega) (by omega))
      · rw [flatT, keysT_app] at q
        rcases List.mem_append.mp q with q | q
        · have := hrn _ q; omega
        · have := htl _ q; omega
    · have := htl _ hk
      have hM : Mr (s :: r) k = Mr r k := by rw [Mr, if_neg (by omega)]
      obtain ⟨i1, i2, i3, i4⟩ := Mr_has h6 hk
      rw [hM]
      refine ⟨i1, i2, fun j hj => has_iff.mpr ?_, has_no fun q => ?_⟩
      · rw [flatT, keysT_app]; exact List.mem_append_right _ (has_iff.mp (i3 j hj))
      · rw [flatT, keysT_app] at q
        rcases List.mem_append.mp q with q | q
        · have := hrn _ q; omega
        · rw [has_iff.mpr q] at i4; cases i4
theorem Mr_start : ∀ {r : List Sec} {lo : Nat}, SecsOk lo r → ∀ s ∈ r, Mr r s.1 = s.2.length ∧ lo ≤ s.1
  | [], _, _, s, hs => by cases hs
  | s' :: r, lo, h, s, hs => by
    obtain ⟨h1, h2, h3, h4, h5, h6⟩ := h
    have hl : 0 < s'.2.length := List.length_pos_iff.mpr h2
    rcases List.mem_cons.mp hs with rfl | hs
    · refine ⟨?_, h1⟩
      rw [Mr, if_pos (by omega)]; omega
    · obtain ⟨i1, i2⟩ := Mr_start h6 s hs
      refine ⟨?_, by omega⟩
      rw [Mr, if_neg (by omega), i1]
theorem foldO_run (M : Nat → Nat) (ends : Nat → List UInt8) : ∀ (es : List EntN) (n t : Nat) (B : List UInt8), 0 < n →
    ((es.zipIdx n).map fun x => (x.2, x.1)).foldl (stepO M ends) (B, (n : Int) - 1, t) = (B ++ linesB ends t es, (n + es.length : Int) - 1, t + es.length)
  | [], n, t, B, h => by simp [linesB]
  | e :: es, n, t, B, h => by
    rw [List.zipIdx_cons, List.map_cons, List.foldl_cons]
    have : stepO M ends (B, (n : Int) - 1, t) (n, e) = (B ++ entB e ++ ends t, ((n + 1 : Nat) : Int) - 1, t + 1) := by
      unfold stepO
      rw [if_neg (by simp; omega)]
      simp
    rw [this, foldO_run M ends es (n + 1) (t + 1) _ (by omega)]
    simp only [linesB, List.length_cons, List.append_assoc, Prod.mk.injEq, true_and]
    omega
theorem foldO_flat (M : Nat → Nat) (ends : Nat → List UInt8) : ∀ {r : List Sec} {lo t : Nat} {last : Int} {B : List UInt8}, SecsOk lo r → (∀ s ∈ r, M s.1 = s.2.length) → (last = -1 ∨ last + 1 < lo) →
    ((flatN r).foldl (stepO M ends) (B, last, t)).1 = B ++ secsB ends t r
  | [], lo, t, last, B, _, _, _ => by simp [flatN, secsB]
  | (n, []) :: r, lo, t, last, B, h, _, _ => absurd rfl h.2.1
  | (n, e :: es) :: r, lo, t, last, B, h, hM, hl => by
    obtain ⟨h1, h2, h3, h4, h5, h6⟩ := h
    have hMn := hM _ (.head _)
    dsimp only at h1 hMn
    rw [flatN, List.foldl_append, List.zipIdx_cons, List.map_cons, List.foldl_cons]
    have hs : stepO M ends (B, last, t) (n, e) = (B ++ digB n ++ [32] ++ digB (es.length + 1) ++ [10] ++ entB e ++ ends t, ((n + 1 : Nat) : Int) - 1, t + 1) := by
      unfold stepO
      dsimp only
      rw [if_pos (by omega), hMn]
      simp
    rw [hs, foldO_run M ends es (n + 1) (t + 1) _ (by omega), foldO_flat M ends h6 (fun s hs => hM s (.tail _ hs)) (.inr (by simp only [List.length_cons]; omega))]
    simp only [secsB, secB, linesB, List.length_cons, List.append_assoc]
    rw [show t + 1 + es.length = t + (es.length + 1) by omega]
theorem flatN_ok : ∀ {r : List Sec} {lo : Nat}, SecsOk lo r → ∀ x ∈ flatN r, x.1 < 10 ^ 21 ∧ EntOk x.2
  | [], _, _, x, hx => by cases hx
  | s :: r, lo, h, x, hx => by
    obtain ⟨h1, h2, h3, h4, h5, h6⟩ := h
    rcases List.mem_append.mp hx with hx | hx
    · obtain ⟨⟨e, k⟩, hy, rfl⟩ := List.mem_map.mp hx
      have := List.mem_zipIdx hy
      obtain ⟨j1, j2, j3⟩ := this
      refine ⟨by show k < _; omega, h3 _ ?_⟩
      show e ∈ s.2
      rw [j3]; exact List.getElem_mem _
    · exact flatN_ok h6 x hx
theorem stepO_len {M : Nat → Nat} {ends : Nat → List UInt8} (hE : ∀ t, (ends t).length ≤ 2) {st : List UInt8 × Int × Nat} {x : Nat × EntN} (hx : x.1 < 10 ^ 21 ∧ EntOk x.2) (hM : M x.1 ≤ 50) : (stepO M ends st x).1.length ≤ st.1.length + 100 := by
  have d1 : (digB x.1).length ≤ 21 := by have := digN_len (k := 21) (by decide) hx.1; simpa [digB] using this
  have d2 : (digB (M x.1)).length ≤ 21 := by have := digN_len (n := M x.1) (k := 21) (by decide) (by omega); simpa [digB] using this
  have e1 := entB_len hx.2
  have e2 := hE st.2.2
  unfold stepO
  split <;> simp <;> omega
theorem foldO_len {M : Nat → Nat} {ends : Nat → List UInt8} (hE : ∀ t, (ends t).length ≤ 2) : ∀ {l : List (Nat × EntN)} {st : List UInt8 × Int × Nat}, (∀ x ∈ l, (x.1 < 10 ^ 21 ∧ EntOk x.2) ∧ M x.1 ≤ 50) → (l.foldl (stepO M ends) st).1.length ≤ st.1.length + 100 * l.length
  | [], st, h => by simp
  | x :: l, st, h => by
    have i1 := stepO_len (st := st) hE (h x (.head _)).1 (h x (.head _)).2
    have i2 := foldO_len hE (l := l) (st := stepO M ends st x) fun y hy => h y (.tail _ hy)
    simp only [List.foldl_cons, List.length_cons]; omega
end BodyP5
section Group22
local macro_rules | `(tactic| walk_at "hv") => `(tactic| first
  | ((show EW _ _ _ _ (eval (Expr.Call (Expr.Name (Str.ofString "_law_figures") _) _ _ _) _) _ _); (refine C_fn (by assumption) (by walk_at "gm") (c_law_figures _) ?_))
  | ((show EW _ _ _ _ (eval (Expr.Call (Expr.Name (Str.ofString "len") _) _ _ _) _) _ _); (refine C_bt (by assumption) (by walk_at "gm") (c_len _) ?_))
  | ((show EW _ _ _ _ (eval (Expr.Call (Expr.Name (Str.ofString "str") _) _ _ _) _) _ _); (refine C_bt (by assumption) (by walk_at "gm") (c_str _) ?_))
  | ((show EW _ _ _ _ (eval (Expr.Call (Expr.Name (Str.ofString "bytes") _) _ _ _) _) _ _); (refine C_bt (by assumption) (by walk_at "gm") (c_bytes _) ?_))
  | ((show EW _ _ _ _ (eval (Expr.Call (Expr.Name (Str.ofString "list") _) _ _ _) _) _ _); (refine C_bt (by assumption) (by walk_at "gm") (c_list _) ?_))
  | ((show EW _ _ _ _ (eval (Expr.Call (Expr.Name (Str.ofString "sorted") _) _ _ _) _) _ _); (refine C_bt (by assumption) (by walk_at "gm") (c_sorted _) ?_))
  | ((show EW _ _ _ _ (eval (Expr.Call (Expr.Name (Str.ofString "ord") _) _ _ _) _) _ _); (refine C_bt (by assumption) (by walk_at "gm") (c_ord _) ?_)))
local macro_rules | `(tactic| walk_at "hi") => `(tactic| first
  | refine if_nt ?_
  | refine if_nf ?_)
section BodyT2
def natB (l : List UInt8) : List Nat := l.map (·.toNat)
theorem natB_app (a b : List UInt8) : natB (a ++ b) = natB a ++ natB b := List.map_append
theorem natB_lt (l : List UInt8) : ∀ k ∈ natB l, k < 256 := fun k hk => by
  obtain ⟨x, _, rfl⟩ := List.mem_map.mp hk
  exact x.toNat_lt
theorem digN_natB (n : Nat) : digN n = natB (digB n) := by
  unfold digB natB
  rw [List.map_map]
  refine ((List.map_congr_left fun k hk => ?_).trans (List.map_id _)).symm
  have := digN_mem hk
  show (UInt8.ofNat k).toNat = k
  rw [UInt8.toNat_ofNat']; exact Nat.mod_eq_of_lt (by omega)
def tupE (e : Ent) : V := .tup [.str (wayS e.1), .int e.2.1, .int e.2.2]
def tT (T : Tab) : List (Int × V) := T.map fun x => (x.1, tupE x.2)
def endV (es : List (List UInt8)) : List V := es.map fun l => .str (tx (natB l))
theorem gva_tT (T : Tab) (n : Int) : (gva (tT T) n).isSome = has T n := by
  induction T with
  | nil => rfl
  | cons x T ih =>
    unfold gva tT Mine.has at ih ⊢
    rw [List.map_cons, List.find?_cons, List.any_cons]
    by_cases h : x.1 = n
    · simp [h]
    · simp only [h, decide_false, Bool.false_or]; exact ih
theorem gva_tT_mem {T : Tab} {k : Int} {e : Ent} (nd : (keysT T).Nodup) (h : (k, e) ∈ T) : gva (tT T) k = some (tupE e) := by
  obtain ⟨i, hi⟩ := List.getElem?_of_mem h
  refine gva_nodup (i := i) ?_ (by unfold tT; rw [List.getElem?_map, hi]; rfl)
  rw [tT, List.map_map]; exact nd
section
variable {p : Pm} {H : HM} {E L : Addr} {r : List Sec} {es : List (List UInt8)}
local macro_rules | `(tactic| walk_at "h") => `(tactic| first | exact upd_same .. | assumption | (rw [upd_ne (by first | assumption | (apply Ne.symm; assumption))]; walk_at "h"))
theorem law_figures_spec {n m : Nat} (hn : (digN n).length ≤ m) (h20 : n < 10 ^ 21) (hm : m ≤ 100) : CWd p 3 (.ref 858) [.int (n : Int), .int (m : Int)] H (.str (tx (natB (padB n m)))) H := by
  refine CW_0 (params := ["number", "many"]) ["number", "many", "text"] ["str", "len"] [some (.int (n : Int)), some (.int (m : Int)), none] (fun us h => match us, h with | [u, v], _ => rfl) ?_
  intro c F hTp hL
  walk_at "W"
  refine Os_str_int (log2_ok (i := n) (Nat.lt_of_lt_of_le h20 (by decide +kernel))) ?_
  rw [digT_nat]
  walk_at "W"
  refine Os_len_str (by omega) ?_
  walk_at "W"
  rw [show (m : Int) - ((digN n).length : Int) = ((m - (digN n).length : Nat) : Int) by omega]
  refine O_mulS (k := 48) (by omega) ?_
  walk_at "W"
  refine O_addS (by simp; omega) ?_
  refine ⟨congrArg (fun l => V.str (tx l)) ?_, rfl⟩
  rw [padB, natB_app, ← digN_natB]; simp [natB]
set_option maxHeartbeats 2000000 in
theorem law_octets_spec (hr : SecsOk 0 r) (h64 : (flatT r).length < 64) (hE : H E = some (.fdint (tT (flatT r)))) (hL : H L = some (.flist (endV es))) (h0 : 0 < es.length) (h1 : es.length ≤ 10) (h2 : ∀ l ∈ es, l.length ≤ 2) :
    CWd p 12 (.ref 863) [.ref E, .ref L] H (.bytes (xrw ++ [10] ++ secsB (fun t => es.getD (t % es.length) []) 0 r)) H := by
  refine CW.dropped (CW_0 (params := ["table", "ends"]) ["table", "ends", "text", "last", "turn", "number", "many", "way", "one", "two", "line"] ["sorted", "list", "str", "_law_figures", "len", "bytes"] [some (.ref E), some (.ref L), none, none, none, none, none, none, none, none, none] (fun us h => match us, h with | [u, v], _ => rfl) ?_)
  intro c F hTp hLc
  have hasc := asc_flat hr
  have hnd := asc_nodup hasc
  have hEnd : ∀ t, ((fun t => es.getD (t % es.length) []) t).length ≤ 2 := fun t => by
    have : t % es.length < es.length := Nat.mod_lt _ h0
    dsimp only
    rw [List.getD_eq_getElem?_getD, List.getElem?_eq_getElem this]
    exact h2 _ (List.getElem_mem _)
  generalize hends : (fun t => es.getD (t % es.length) []) = ends at hEnd
  walk_at "W"
  refine K_AssignT (hw := swapped_none (by rfl)) ?_
  walk_at "W"
  refine Os_list_dictI hE (by simp [tT]; omega) fun A hA => ?_
  have hEA : E ≠ A := ne_of_some hE hA
  have hLA : L ≠ A := ne_of_some hL hA
  walk_at "W"
  refine Os_sorted_list (upd_same ..) (by simpa [tT] using h64) fun S ks hS hp hs => ?_
  obtain ⟨hSA, hHS⟩ := fresh_of hS
  have hES : E ≠ S := ne_of_some hE hHS
  have hLS : L ≠ S := ne_of_some hL hHS
  have hk : ks = keysT (flatT r) := sorted_unique (by rw [tT, List.map_map] at hp; exact hp) hs (asc_le hasc)
  subst hk
  walk_at "W"
  refine I_list (upd_same ..) ?_
  rw [upd_upd]
  generalize hHf : upd (upd H A _) S _ = Hf
  have oE : Hf E = some (.fdint (tT (flatT r))) := by rw [← hHf]; walk_at "h"
  have oL : Hf L = some (.flist (endV es)) := by rw [← hHf]; walk_at "h"
  have hle : Le H Hf := by rw [← hHf]; exact (Le.upd _ hA).trans (Le.upd _ (by rw [upd_ne hSA]; exact hHS))
  refine ⟨fun i vals H' => ∃ st, st = ((flatN r).take i).foldl (stepO (Mr r) ends) (xrw ++ [10], -1, 0) ∧ vals = [some (.ref E), some (.ref L), some (.str (tx (natB st.1))), some (.int st.2.1), some (.int (st.2.2 : Int)), none, none, none, none, none, none] ∧ H' = Hf, _, by walk_at "le", ⟨_, rfl, rfl, rfl⟩, ?_, ?_⟩
  · rintro i x vals H₁ hx ⟨st, hst, rfl, rfl⟩
    have hkN : keysT (flatT r) = (flatN r).map fun x => (x.1 : Int) := by rw [flatT_N, keysT, List.map_map]; rfl
    rw [hkN, List.getElem?_map, List.getElem?_map] at hx
    obtain ⟨k', hk', rfl⟩ := Option.map_eq_some_iff.mp hx
    obtain ⟨⟨k, e⟩, hi, rfl⟩ := Option.map_eq_some_iff.mp hk'
    have hm := List.mem_of_getElem? hi
    obtain ⟨k21, heo⟩ := flatN_ok hr _ hm
    have hel : ((k : Int), entV e) ∈ flatT r := by rw [flatT_N]; exact List.mem_map.mpr ⟨_, hm, rfl⟩
    obtain ⟨M1, M2, M3, M4⟩ := Mr_has hr (k := k) (by rw [hkN]; exact List.mem_map.mpr ⟨_, hm, rfl⟩)
    have hgv := gva_tT_mem hnd hel
    have hlenN : (flatN r).length < 64 := by have := congrArg List.length (flatT_N r); simp at this; omega
    have hil := (List.getElem?_eq_some_iff.mp hi).1
    have hstl : st.1.length ≤ 5 + 100 * i := by
      rw [hst]
      have := foldO_len (M := Mr r) hEnd (l := (flatN r).take i) (st := (xrw ++ [10], -1, 0)) fun x hx => ⟨flatN_ok hr x (List.mem_of_mem_take hx), (Mr_has hr (k := x.1) (by rw [hkN]; exact List.mem_map.mpr ⟨_, List.mem_of_mem_take hx, rfl⟩)).2.1⟩
      have h5 : ((xrw ++ [10], -1, 0) : List UInt8 × Int × Nat).1.length = 5 := rfl
      rw [List.length_take] at this
      omega
    have hst' : ((flatN r).take (i + 1)).foldl (stepO (Mr r) ends) (xrw ++ [10], -1, 0) = stepO (Mr r) ends st (k, e) := by rw [List.take_add_one, hi, List.foldl_append, ← hst]; rfl
    have hd1 : (digN k).length ≤ 21 := digN_len (by decide) k21
    have hd2 : (digN (Mr r k)).length ≤ 21 := digN_len (by decide) (by omega)
    obtain ⟨b, one, two⟩ := e
    have ho1 : one < 10 ^ 10 := heo.1
    have ho2 : two ≤ 65535 := heo.2
    have hf1 : (digN one).length ≤ 10 := digN_len (by decide) ho1
    have hf2 : (digN two).length ≤ 5 := digN_len (by decide) (by omega)
    have hp1 : (padB one 10).length = 10 := padB_len (by decide) ho1
    have hp2 : (padB two 5).length = 5 := padB_len (by decide) (by omega)
    obtain ⟨B, last, turn⟩ := st
    dsimp only at hstl hst' ⊢
    walk_at "W"
    refine if_ne (fun h => ?hdrA) (fun h => ?nxtA)
    case' nxtA =>
      walk_at "W"
      refine if_eq (fun h2 => ?hdrB) (fun h2 => ?skipA)
    case' hdrA | hdrB =>
      walk_at "W"
      refine K_While F (fun m vals H' => ∃ j : Nat, vals = [some (.ref E), some (.ref L), some (.str (tx (natB B))), some (.int last), some (.int (turn : Int)), some (.int (k : Int)), some (.int (j : Int)), none, none, none, none] ∧ H' = H₁ ∧ 1 ≤ j ∧ j ≤ Mr r k ∧ m = Mr r k - j) _ _ (by walk_at "le") ⟨1, rfl, rfl, by omega, M1, rfl⟩ ?_
      rintro m _ _ ⟨j, rfl, rfl, hj1, hj2, rfl⟩
      walk_at "W"
      refine O_in_fdint oE ?_
      rw [gva_tT, Int.natCast_add]
      walk_at "W"
      refine if_b (fun h3 => ?wGo) (fun h3 => ?wEnd)
      case wGo =>
        have hj3 : j < Mr r k := Nat.lt_of_le_of_ne hj2 fun q => by rw [q, M4] at h3; cases h3
        walk_at "W"
        refine Turn.nx (F := F) (vals := [_, _, _, _, _, _, _, none, none, none, none]) (by walk_at "le") ⟨Mr r k - (j + 1), by omega, j + 1, rfl, rfl, by omega, by omega, rfl⟩
      have hj3 : j = Mr r k := by
        rcases Nat.lt_or_ge j (Mr r k) with q | q
        · rw [M3 j q] at h3; cases h3
        · omega
      subst hj3
      walk_at "W"
      refine Os_str_int (log2_ok (Nat.lt_of_lt_of_le k21 (by decide +kernel))) ?_
      rw [digT_nat]
      refine O_addS (by simp [natB]; omega) ?_
      walk_at "W"
      refine O_addS (y := [32]) (by simp [natB]; omega) ?_
      walk_at "W"
      refine Os_str_int (log2_ok (Nat.lt_of_le_of_lt M2 (by decide +kernel))) ?_
      rw [digT_nat]
      refine O_addS (by simp [natB]; omega) ?_
      walk_at "W"
      refine O_addS (y := [10]) (by simp [natB]; omega) ?_
      walk_at "W"
      have hB : natB B ++ digN k ++ [32] ++ digN (Mr r k) ++ [10] = natB (B ++ digB k ++ [32] ++ digB (Mr r k) ++ [10]) := by rw [digN_natB, digN_natB]; simp [natB]
      have hstep : stepO (Mr r) ends (B, last, turn) (k, (b, one, two)) = (B ++ digB k ++ [32] ++ digB (Mr r k) ++ [10] ++ entB (b, one, two) ++ ends turn, (k : Int), turn + 1) := by
        unfold stepO
        rw [if_pos (by first | exact .inl h | exact .inr h2)]
      have hBl : (B ++ digB k ++ [32] ++ digB (Mr r k) ++ [10]).length ≤ 10000 := by simp [digB]; omega
      rw [hB]
      generalize B ++ digB k ++ [32] ++ digB (Mr r k) ++ [10] = B1 at *
    case' skipA =>
      walk_at "W"
      have hstep : stepO (Mr r) ends (B, last, turn) (k, (b, one, two)) = (B ++ entB (b, one, two) ++ ends turn, (k : Int), turn + 1) := by
        unfold stepO
        rw [if_neg (by rintro (q | q) <;> contradiction)]
      have hBl : B.length ≤ 10000 := by omega
      generalize B = B1 at *
    all_goals
      refine O_item_fdint oE hgv ?_
      dsimp only [tupE, entV]
      walk_at "W"
      refine F_callE F (law_figures_spec (n := one) (m := 10) hf1 (by omega) (by decide)) (by decide) ?_
      walk_at "W"
      refine O_addS (y := [32]) (by simp [natB, hp1]) ?_
      walk_at "W"
      refine F_callE F (law_figures_spec (n := two) (m := 5) hf2 (by omega) (by decide)) (by decide) ?_
      walk_at "W"
      refine O_addS (by simp [natB, hp1, hp2]) ?_
      walk_at "W"
      refine if_eq (fun hb => ?_) (fun hb => ?_)
      case' refine_1 =>
        obtain rfl : b = true := by
          cases b with
          | true => rfl
          | false => exact absurd hb wayS_free
        walk_at "W"
        refine O_addS (y := [32, 110]) (by simp [natB, hp1, hp2]) ?_
        have hline : natB (padB one 10) ++ [32] ++ natB (padB two 5) ++ [32, 110] = natB (entB (true, one, two)) := by simp [entB, natB]
      case' refine_2 =>
        obtain rfl : b = false := by
          cases b with
          | true => exact absurd rfl hb
          | false => rfl
        walk_at "W"
        refine O_addS (y := [32, 102]) (by simp [natB, hp1, hp2]) ?_
        have hline : natB (padB one 10) ++ [32] ++ natB (padB two 5) ++ [32, 102] = natB (entB (false, one, two)) := by simp [entB, natB]
    all_goals
      rw [hline]
      have hel2 := entB_len heo
      dsimp only at hel2
      have hmod : (turn : Int).fmod (es.length : Int) = ((turn % es.length : Nat) : Int) := by rw [Int.fmod_eq_emod_of_nonneg _ (by omega)]; rfl
      have hmlt : turn % es.length < es.length := Nat.mod_lt _ h0
      have hend : (endV es)[turn % es.length]? = some (.str (tx (natB (ends turn)))) := by
        rw [← hends, endV, List.getElem?_map, List.getElem?_eq_getElem hmlt]
        simp [List.getD_eq_getElem?_getD, List.getElem?_eq_getElem hmlt]
      have hev : (endV es).length = es.length := by simp [endV]
      have he3 := hEnd turn
      walk_at "W"
      refine K_AssignT3 F (by walk_at "gm") (by walk_at "gm") (by walk_at "gm") ?_
      walk_at "W"
      refine O_addS (by simp only [natB, List.length_map]; omega) ?_
      walk_at "W"
      refine Os_len_flist oL (by omega) ?_
      walk_at "W"
      rw [hev]
      refine O_mod (by omega) ?_
      rw [hmod]
      walk_at "W"
      refine O_item_flist oL (by omega) (by omega) (by rw [Int.toNat_natCast]; exact hend) ?_
      refine O_addS (by simp only [natB, List.length_append, List.length_map]; omega) ?_
      walk_at "W"
      refine ⟨_, _, _, rfl, ?_⟩
      walk_at "W"
      refine Turn.nx (F := F) (vals := [_, _, _, _, _, none, none, none, none, none, none]) (by walk_at "le") ⟨_, rfl, ?_, rfl⟩
      rw [hst', hstep]
      simp only [natB_app, List.append_assoc]
  · rintro vals H₁ ⟨st, hst, rfl, rfl⟩
    rw [List.take_of_length_le (by simp [keysT, flatT_N])] at hst
    have hBf : st.1 = xrw ++ [10] ++ secsB ends 0 r := by rw [hst]; exact foldO_flat (Mr r) ends hr (fun s hs => (Mr_start hr s hs).1) (.inl rfl)
    have hlN : (flatN r).length < 64 := by have := congrArg List.length (flatT_N r); simp at this; omega
    have hkN : keysT (flatT r) = (flatN r).map fun x => (x.1 : Int) := by rw [flatT_N, keysT, List.map_map]; rfl
    have hstl : st.1.length ≤ 10000 := by
      rw [hst]
      have := foldO_len (M := Mr r) hEnd (l := flatN r) (st := (xrw ++ [10], -1, 0)) fun x hx => ⟨flatN_ok hr x hx, (Mr_has hr (k := x.1) (by rw [hkN]; exact List.mem_map.mpr ⟨_, hx, rfl⟩)).2.1⟩
      have h5 : ((xrw ++ [10], -1, 0) : List UInt8 × Int × Nat).1.length = 5 := rfl
      omega
    rw [← hBf]
    walk_at "W"
    refine E_ListComp (cl := []) (closure_of (by simp [cellsOf])) ?_ F.L
    walk_at "W"
    refine I_tx ⟨fun i acc H₃ => acc = (((natB st.1).take i).map fun (k : Nat) => .int (k : Int)) ∧ H₃ = H₁, ⟨by simp [natB]; omega, ⟨rfl, rfl⟩, fun i acc H₃ b ⟨_, h⟩ hb => by rw [h]; exact hb, ?_⟩, ?_⟩
    · rintro C i y acc H₃ hC hy ⟨rfl, rfl⟩ hHC
      rw [List.getElem?_map] at hy
      obtain ⟨k, hk', rfl⟩ := Option.map_eq_some_iff.mp hy
      refine U1.inComp F hC ["sign"] ["ord"] [none] fun F' ce => ?_
      walk_at "W"
      show EW _ _ _ _ _ _ _
      walk_at "W"
      refine Os_ord ?_
      refine ⟨?_, rfl⟩
      rw [List.take_add_one, hk']
      simp
    · rintro acc H₃ D ⟨rfl, rfl⟩ hD _
      walk_at "W"
      refine Os_bytes_list (ks := (natB st.1).map (fun (k : Nat) => (k : Int))) (by rw [upd_same]; simp) (by simp; intro a ha; have := natB_lt st.1 a ha; omega) (by simp [natB]; omega) ?_
      walk_at "W"
      refine ⟨_, hle.trans (Le.upd _ hD), congrArg V.bytes ?_, rfl⟩
      simp [natB, Function.comp_def]
end
end BodyT2
end Group22
section Group23
local macro_rules | `(tactic| walk_at "hv") => `(tactic| first
  | ((show EW _ _ _ _ (eval (Expr.Call (Expr.Name (Str.ofString "_law_white") _) _ _ _) _) _ _); (refine C_fn (by assumption) (by walk_at "gm") (c_law_white _) ?_))
  | ((show EW _ _ _ _ (eval (Expr.Call (Expr.Name (Str.ofString "_law_run") _) _ _ _) _) _ _); (refine C_fn (by assumption) (by walk_at "gm") (c_law_run _) ?_))
  | ((show EW _ _ _ _ (eval (Expr.Call (Expr.Name (Str.ofString "_law_value") _) _ _ _) _) _ _); (refine C_fn (by assumption) (by walk_at "gm") (c_law_value _) ?_))
  | ((show EW _ _ _ _ (eval (Expr.Call (Expr.Name (Str.ofString "_law_line") _) _ _ _) _) _ _); (refine C_fn (by assumption) (by walk_at "gm") (c_law_line _) ?_))
  | ((show EW _ _ _ _ (eval (Expr.Call (Expr.Name (Str.ofString "len") _) _ _ _) _) _ _); (refine C_bt (by assumption) (by walk_at "gm") (c_len _) ?_))
  | ((show EW _ _ _ _ (eval (Expr.Call (Expr.Name (Str.ofString "min") _) _ _ _) _) _ _); (refine C_bt (by assumption) (by walk_at "gm") (c_min _) ?_))
  | ((show EW _ _ _ _ (eval (Expr.Call (Expr.Name (Str.ofString "range") _) _ _ _) _) _ _); (refine C_bt (by assumption) (by walk_at "gm") (c_range _) ?_)))
local macro_rules | `(tactic| walk_at "hm") => `(tactic| first
  | ((show O2 _ _ _ _ (binaryOp Operator.Mult) _ _ _ _); first | (refine O_mul10R ?_) | (refine O_mul10L ?_)))
local macro_rules | `(tactic| walk_at "hr") => `(tactic| first
  | (refine Os_range1 ?_)
  | (refine Os_range2 ?_))
section BodyT3
theorem cut_gen {α : Type} (l : List α) {a b : Nat} (hab : a ≤ b) : cut l (some a) (some b) = (l.drop a).take (b - a) := by
  have e1 := clipAt_nat l.length a
  have e2 := clipAt_nat l.length b
  simp only [cut, Option.elim, e1, e2]
  rcases Nat.lt_or_ge l.length a with h | h
  · rw [List.drop_eq_nil_of_le (by omega : l.length ≤ a), List.drop_eq_nil_of_le (by omega)]; simp
  · rw [Nat.min_eq_left h]
    rcases Nat.lt_or_ge l.length b with h2 | h2
    · rw [Nat.min_eq_right (by omega)]
      rw [List.take_of_length_le (by simp), List.take_of_length_le (by simp; omega)]
    · rw [Nat.min_eq_left h2]
section
variable {p : Pm} {H : HM} {l : List UInt8} {k : Nat}
theorem law_white_spec (hl : l.length ≤ 16777216) : CWd p 1 (.ref 870) [.bytes l, .int (k : Int)] H (.int ((ws l k : Nat) : Int)) H := by
  refine CW_0 (params := ["data", "at"]) ["data", "at"] ["len"] [some (.bytes l), some (.int (k : Int))] (fun us h => match us, h with | [u, v], _ => rfl) ?_
  intro c F hT hL
  refine K_While F (fun m vals H' => ∃ k' : Nat, vals = [some (.bytes l), some (.int (k' : Int))] ∧ H' = H ∧ ws l k' = ws l k ∧ m = l.length - k') _ _ (by walk_at "le") ⟨k, rfl, rfl, rfl, rfl⟩ ?_
  rintro m _ H₁ ⟨k', rfl, rfl, e, rfl⟩
  walk_at "W"
  refine if_dec (fun h => ?_) (fun h => ?_)
  · have h' : k' < l.length := by omega
    walk_at "W"
    refine if_dec (fun hw => ?_) (fun hw => ?_)
    · walk_at "W"
      refine if_eq (fun h2 => ?_) (fun h2 => ?_)
      · refine K_While F (fun m vals H'' => ∃ j : Nat, vals = [some (.bytes l), some (.int (j : Int))] ∧ H'' = H₁ ∧ cm l j = cm l (k' + 1) ∧ k' ≤ j ∧ m = l.length - j ∧ (j = k' → byt l j = 37)) _ _ (by walk_at "le") ⟨k', rfl, rfl, ?_, Nat.le_refl _, rfl, fun _ => h2⟩ ?_
        · rw [cm]; simp [h', h2]
        rintro m _ _ ⟨j, rfl, rfl, e2, hj, rfl, h37⟩
        walk_at "W"
        refine if_dec (fun h => ?_) (fun h => ?_)
        · have h'' : j < l.length := by omega
          walk_at "W"
          refine if_ndec (fun h3 => ?_) (fun h3 => ?_)
          · walk_at "W"
            refine Turn.nx (F := F) (by walk_at "le") ⟨_, ?_, j + 1, rfl, rfl, ?_, by omega, rfl, by omega⟩
            · omega
            · rw [← e2]; conv => rhs; rw [cm]
              simp at h3
              simp [h'', h3]
          · walk_at "W"
            simp at h3
            have hk : cm l j = j := by rw [cm]; simp [h'', h3]
            have : j ≠ k' := fun q => by have := h37 q; omega
            refine Turn.nx (F := F) (by walk_at "le") ⟨_, ?_, j, rfl, rfl, ?_, rfl⟩
            · omega
            · rw [← e]; conv => rhs; rw [ws]
              simp [h', h2]; rw [← e2, hk]
        · walk_at "W"
          have hk : cm l j = j := by rw [cm]; simp [show ¬ j < l.length by omega]
          refine Turn.nx (F := F) (by walk_at "le") ⟨_, ?_, j, rfl, rfl, ?_, rfl⟩
          · omega
          · rw [← e]; conv => rhs; rw [ws]
            simp [h', h2]; rw [← e2, hk]
      · walk_at "W"
        refine Turn.nx (F := F) (by walk_at "le") ⟨_, ?_, k' + 1, rfl, rfl, ?_, rfl⟩
        · omega
        · rw [← e]; conv => rhs; rw [ws]
          rw [if_pos h', if_neg h2, if_pos]
          simp at hw ⊢; omega
    · walk_at "W"
      refine ⟨?_, rfl⟩
      rw [← e, ws, if_pos h', if_neg, if_neg]
      · rfl
      · simp at hw ⊢; omega
      · simp at hw; omega
  · walk_at "W"
    refine ⟨?_, rfl⟩
    rw [← e, ws, if_neg (by omega)]; rfl
theorem law_run_spec {m : Nat} (hl : l.length ≤ 16777216) : CWd p 1 (.ref 877) [.bytes l, .int (k : Int), .int (m : Int)] H (.int ((fh l k m : Nat) : Int)) H := by
  refine CW_0 (params := ["data", "at", "most"]) ["data", "at", "most", "many"] ["len"] [some (.bytes l), some (.int (k : Int)), some (.int (m : Int)), none] (fun us h => match us, h with | [u, v, w], _ => rfl) ?_
  intro c F hT hL
  walk_at "W"
  refine K_While F (fun q vals H' => ∃ j : Nat, vals = [some (.bytes l), some (.int (k : Int)), some (.int (m : Int)), some (.int (j : Int))] ∧ H' = H ∧ j ≤ m ∧ j + fh l (k + j) (m - j) = fh l k m ∧ q = m - j) _ _ (by walk_at "le") ⟨0, rfl, rfl, Nat.zero_le _, by simp, rfl⟩ ?_
  rintro q _ _ ⟨j, rfl, rfl, hj, e, rfl⟩
  have stop : (j = m ∨ ¬ isFig (pk l (k + j)) = true) → retV (.ret (.int (j : Int))) = V.int ((fh l k m : Nat) : Int) := fun h => by
    rw [← e]
    rcases h with rfl | h
    · rw [Nat.sub_self]; rfl
    · cases q : m - j with
      | zero => rfl
      | succ q' => rw [fh, if_neg h]; rfl
  walk_at "W"
  refine if_dec (fun h => ?_) (fun h => ?_)
  · walk_at "W"
    refine if_dec (fun h2 => ?_) (fun h2 => ?_)
    · have h2' : k + j < l.length := by omega
      have hpk : pk l (k + j) = byt l (k + j) := by rw [pk, if_pos h2']
      walk_at "W"
      refine if_dec (fun h3 => ?_) (fun h3 => ?_)
      · walk_at "W"
        refine if_dec (fun h4 => ?_) (fun h4 => ?_)
        · walk_at "W"
          refine Turn.nx (F := F) (by walk_at "le") ⟨_, ?_, j + 1, rfl, rfl, by omega, ?_, rfl⟩
          · omega
          · rw [← e]
            conv => rhs; rw [show m - j = (m - (j + 1)) + 1 by omega, fh, if_pos (by rw [hpk]; simp [isFig]; omega)]
            rw [show k + (j + 1) = k + j + 1 by omega]; omega
        · walk_at "W"
          exact ⟨stop (.inr (by rw [hpk]; simp [isFig]; omega)), rfl⟩
      · walk_at "W"
        exact ⟨stop (.inr (by rw [hpk]; simp [isFig]; omega)), rfl⟩
    · walk_at "W"
      exact ⟨stop (.inr (by rw [pk, if_neg (by omega)]; simp [isFig])), rfl⟩
  · walk_at "W"
    exact ⟨stop (.inl (by omega)), rfl⟩
theorem law_value_spec {m : Nat} (hl : l.length ≤ 16777216) : CWd p 1 (.ref 884) [.bytes l, .int (k : Int), .int (m : Int)] H (.int (dv ((l.drop k).take m) 0)) H := by
  refine CW_0 (params := ["data", "at", "many"]) ["data", "at", "many", "total", "code"] [] [some (.bytes l), some (.int (k : Int)), some (.int (m : Int)), none, none] (fun us h => match us, h with | [u, v, w], _ => rfl) ?_
  intro c F hT hL
  walk_at "W"
  rw [show cut l (some (k : Int)) (some ((k + m : Nat) : Int)) = (l.drop k).take m by rw [cut_gen l (by omega), Nat.add_sub_cancel_left]]
  generalize (l.drop k).take m = w
  refine I_bytes ⟨fun i vals H' => vals = [some (.bytes l), some (.int (k : Int)), some (.int (m : Int)), some (.int (dv (w.take i) 0)), none] ∧ H' = H, _, by walk_at "le", ⟨rfl, rfl⟩, ?_, ?_⟩
  · rintro i x vals H₁ hx ⟨rfl, rfl⟩
    rw [List.getElem?_map] at hx
    obtain ⟨b, hb, rfl⟩ := Option.map_eq_some_iff.mp hx
    walk_at "W"
    refine Turn.nx (F := F) (vals := [_, _, _, _, none]) (by walk_at "le") ⟨?_, rfl⟩
    rw [List.take_add_one, hb, dv_app]; rfl
  · rintro vals H₁ ⟨rfl, rfl⟩
    rw [List.length_map, List.take_length]
    walk_at "W"
    exact ⟨rfl, rfl⟩
end
end BodyT3
section BodyT4
theorem take1_pk {l : List UInt8} {j : Nat} {b : UInt8} : (l.drop j).take 1 = [b] ↔ pk l j = (b.toNat : Int) := by
  rcases Nat.lt_or_ge j l.length with h | h
  · rw [List.drop_eq_getElem_cons h]
    simp only [List.take_succ_cons, List.take_zero, pk, if_pos h, byt, List.getD_eq_getElem?_getD, List.getElem?_eq_getElem h, Option.getD_some]
    constructor
    · intro q; injection q with q; rw [q]
    · intro q; rw [UInt8.toNat_inj.mp (show l[j].toNat = b.toNat by omega)]
  · rw [List.drop_eq_nil_of_le h, pk, if_neg (by omega)]
    constructor
    · intro q; cases q
    · intro q; omega
def lineV (l : List UInt8) (k : Nat) : V := match entR l k with
  | .error j => .tup [.none, .int (j : Int)]
  | .ok (e, j) => .tup [tupE e, .int (j : Int)]
theorem lineV_err {l : List UInt8} {k j : Nat} (h : entR l k = .error j) : lineV l k = .tup [.none, .int (j : Int)] := by rw [lineV, h]
theorem lineV_ok {l : List UInt8} {k j : Nat} {e : Ent} (h : entR l k = .ok (e, j)) : lineV l k = .tup [tupE e, .int (j : Int)] := by rw [lineV, h]
section
variable {p : Pm} {H : HM} {l : List UInt8} {k : Nat}
theorem cut_pre (w : List UInt8) : cut w none (some (1 : Int)) = w.take 1 := by
  have e := clipAt_nat w.length 1
  have e' : clipAt w.length (1 : Int) = min w.length 1 ∨ clipAt w.length (1 : Int) = min 1 w.length := by first | exact .inl e | exact .inr e
  simp only [cut, Option.elim]
  rcases e' with e' | e' <;> rw [e'] <;> cases w <;> simp
theorem cut1 {j : Nat} : cut l (some (j : Int)) (some ((j + 1 : Nat) : Int)) = (l.drop j).take 1 := by rw [cut_gen l (by omega), Nat.add_sub_cancel_left]
set_option maxHeartbeats 1000000 in
theorem law_line_spec (hl : l.length ≤ 16777216) (hk : k ≤ l.length) : CWd p 5 (.ref 891) [.bytes l, .int (k : Int)] H (lineV l k) H := by
  refine CW_0 (params := ["data", "at"]) ["data", "at", "places", "begun", "many", "held", "letter", "end", "size"] ["_law_run", "_law_value"] [some (.bytes l), some (.int (k : Int)), none, none, none, none, none, none, none] (fun us h => match us, h with | [u, v], _ => rfl) ?_
  intro c F hT hL
  walk_at "W"
  refine I_tup ⟨fun i vals H' => vals = [some (.bytes l), some (.int (k : Int)), some (.tup [.tup [.int 0, .int 10], .tup [.int 11, .int 5]]), none, none, none, none, none, none] ∧ H' = H ∧ (1 ≤ i → fh l k 10 = 10 ∧ pk l (k + 10) = 32) ∧ (2 ≤ i → fh l (k + 11) 5 = 5 ∧ dv ((l.drop (k + 11)).take 5) 0 ≤ 65535 ∧ pk l (k + 16) = 32) ∧ i ≤ 2, _, by walk_at "le", ⟨rfl, rfl, by omega, by omega, by omega⟩, ?_, ?_⟩
  · rintro i x vals H₁ hx ⟨rfl, rfl, g1, g2, hi⟩
    match i, hx with
    | 0, hx =>
      obtain rfl : V.tup [.int 0, .int 10] = x := Option.some.inj hx
      walk_at "W"
      refine F_callE F (law_run_spec (k := k) (m := 10) hl) (by decide) ?_
      walk_at "W"
      refine if_dec (fun h => ?_) (fun h => ?_)
      · walk_at "W"
        refine ⟨(lineV_err (j := k + fh l k 10) ?_).symm, rfl⟩
        rw [entR, if_pos (by omega)]
      have hf : fh l k 10 = 10 := by have := fh_le l 10 k; omega
      walk_at "W"
      refine if_eq (fun h => absurd h (by decide)) (fun _ => ?_)
      walk_at "W"
      refine if_ne (fun h => ?_) (fun h => ?_)
      · have h' : pk l (k + 10) ≠ 32 := fun q => h (cut1.trans (take1_pk.mpr q))
        walk_at "W"
        refine ⟨(lineV_err (j := k + 10) ?_).symm, rfl⟩
        rw [entR, if_neg (by omega), if_pos h']
      · have h' : pk l (k + 10) = 32 := take1_pk.mp (cut1.symm.trans h)
        walk_at "W"
        exact Turn.nx (F := F) (vals := [_, _, _, none, none, none, none, none, none]) (by walk_at "le") ⟨rfl, rfl, fun _ => ⟨hf, h'⟩, by omega, by omega⟩
    | 1, hx =>
      obtain rfl : V.tup [.int 11, .int 5] = x := Option.some.inj hx
      obtain ⟨h1, h2⟩ := g1 (by omega)
      walk_at "W"
      refine F_callE F (law_run_spec (k := k + 11) (m := 5) hl) (by decide) ?_
      walk_at "W"
      refine if_dec (fun h => ?_) (fun h => ?_)
      · walk_at "W"
        refine ⟨(lineV_err (j := k + 11 + fh l (k + 11) 5) ?_).symm, rfl⟩
        rw [entR, if_neg (by omega), if_neg (by omega), if_pos (by omega)]
      have hf : fh l (k + 11) 5 = 5 := by have := fh_le l 5 (k + 11); omega
      walk_at "W"
      refine if_eq (fun _ => ?_) (fun h => absurd rfl h)
      walk_at "W"
      refine F_callE F (law_value_spec (k := k + 11) (m := 5) hl) (by decide) ?_
      walk_at "W"
      refine if_dec (fun h4 => ?_) (fun h4 => ?_)
      · walk_at "W"
        refine ⟨(lineV_err (j := k + 11) ?_).symm, rfl⟩
        rw [entR, if_neg (by omega), if_neg (by omega), if_neg (by omega), if_pos (by omega)]
      walk_at "W"
      refine if_ne (fun h => ?_) (fun h => ?_)
      · have h' : pk l (k + 16) ≠ 32 := fun q => h (cut1.trans (take1_pk.mpr q))
        walk_at "W"
        refine ⟨(lineV_err (j := k + 16) ?_).symm, rfl⟩
        rw [entR, if_neg (by omega), if_neg (by omega), if_neg (by omega), if_neg (by omega), if_pos h']
      · have h' : pk l (k + 16) = 32 := take1_pk.mp (cut1.symm.trans h)
        walk_at "W"
        exact Turn.nx (F := F) (vals := [_, _, _, none, none, none, none, none, none]) (by walk_at "le") ⟨rfl, rfl, fun _ => ⟨h1, h2⟩, fun _ => ⟨hf, by omega, h'⟩, by omega⟩
  · rintro vals H₁ ⟨rfl, rfl, g1, g2, _⟩
    obtain ⟨h1, h2⟩ := g1 (by decide)
    obtain ⟨h3, h4, h5⟩ := g2 (by decide)
    have a1 := fh_lt h1 hk
    have a3 := pk_lt h2 (by decide)
    have a2 := fh_lt h3 (by omega)
    have a4 := pk_lt h5 (by decide)
    walk_at "W"
    refine K_AssignT2 F (by walk_at "gm") (by walk_at "gm") ?_
    walk_at "W"
    refine ⟨_, _, rfl, ?_⟩
    walk_at "W"
    have hlet : cut l (some ((k + 17 : Nat) : Int)) (some ((k + 18 : Nat) : Int)) = (l.drop (k + 17)).take 1 := by rw [cut_gen l (by omega)]; congr 1; omega
    have hend : cut l (some ((k + 18 : Nat) : Int)) (some ((k + 20 : Nat) : Int)) = (l.drop (k + 18)).take 2 := by rw [cut_gen l (by omega)]; congr 1; omega
    have hentl : ∀ {j : Nat}, (pk l (k + 17) ≠ 110 ∧ pk l (k + 17) ≠ 102) → lineV l k = .tup [.none, .int ((k + 17 : Nat) : Int)] := fun h => lineV_err (by
      rw [entR, if_neg (by omega), if_neg (by omega), if_neg (by omega), if_neg (by omega), if_neg (by omega), if_pos h])
    have hl1 : ((l.drop (k + 17)).take 1 = [110] ↔ pk l (k + 17) = 110) := take1_pk
    have hl2 : ((l.drop (k + 17)).take 1 = [102] ↔ pk l (k + 17) = 102) := take1_pk
    have hpre : entR l k = if pk l (k + 17) ≠ 110 ∧ pk l (k + 17) ≠ 102 then .error (k + 17) else match eoE l (k + 18) with
      | none => .error (k + 18)
      | some j => .ok ((decide (pk l (k + 17) = 110), dv ((l.drop k).take 10) 0, dv ((l.drop (k + 11)).take 5) 0), j) := by
      rw [entR, if_neg (by omega), if_neg (by omega), if_neg (by omega), if_neg (by omega), if_neg (by omega)]
      try rfl
    refine if_ndec (fun h => ?_) (fun h => ?_)
    · have h' := h
      simp only [hlet, List.mem_cons, List.not_mem_nil, or_false, not_or, hl1, hl2] at h'
      walk_at "W"
      refine ⟨(lineV_err (j := k + 17) ?_).symm, rfl⟩
      rw [hpre, if_pos h']
    have hlt : ¬ (pk l (k + 17) ≠ 110 ∧ pk l (k + 17) ≠ 102) := fun q => by
      simp only [hlet, List.mem_cons, List.not_mem_nil, or_false, hl1, hl2] at h; omega
    rw [if_neg hlt] at hpre
    walk_at "W"
    refine if_dec (fun he => ?sz2) (fun he => ?sz1)
    case' sz2 =>
      have hj : eoE l (k + 18) = some (k + 20) := by
        simp only [hend, List.mem_cons, List.not_mem_nil, or_false] at he
        rw [eoE, if_pos (by simpa [isAt] using he)]
      rw [hj] at hpre
      walk_at "W"
      refine if_eq (fun h => absurd h (by decide)) (fun _ => ?_)
    case' sz1 =>
      have hn : ¬ (isAt l (k + 18) [32, 13] = true ∨ isAt l (k + 18) [32, 10] = true ∨ isAt l (k + 18) [13, 10] = true) := by
        simp only [hend, List.mem_cons, List.not_mem_nil, or_false] at he
        simpa [isAt] using he
      have hc1 : cut (cut l (some ((k + 18 : Nat) : Int)) (some ((k + 20 : Nat) : Int))) none (some (1 : Int)) = (l.drop (k + 18)).take 1 := by rw [hend, cut_pre, List.take_take]; rfl
      have hm1 : ((l.drop (k + 18)).take 1 = [13] ↔ pk l (k + 18) = 13) := take1_pk
      have hm2 : ((l.drop (k + 18)).take 1 = [10] ↔ pk l (k + 18) = 10) := take1_pk
      walk_at "W"
      refine if_eq (fun _ => ?_) (fun h => absurd rfl h)
      walk_at "W"
      refine O_slice_bytes (by with_unfolding_all rfl) (by with_unfolding_all rfl) (by rw [hend, List.length_take]; omega) ?_
      walk_at "W"
      refine if_ndec (fun hq => ?bad) (fun hq => ?good)
      case bad =>
        have hj : eoE l (k + 18) = none := by
          rw [hc1] at hq
          simp only [List.mem_cons, List.not_mem_nil, or_false, not_or, hm1, hm2] at hq
          rw [eoE, if_neg hn, if_neg (by simp [le1]; omega)]
        rw [hj] at hpre
        walk_at "W"
        exact ⟨(lineV_err (j := k + 18) hpre).symm, rfl⟩
      have hj : eoE l (k + 18) = some (k + 19) := by
        rw [hc1] at hq
        simp only [List.mem_cons, List.not_mem_nil, or_false, hm1, hm2] at hq
        rw [eoE, if_neg hn, if_pos (by simp [le1]; omega)]
        rcases hq with hq | hq
        · have h10 : pk l (k + 18 + 1) ≠ 10 := fun q => hn (.inr (.inr (by
            have hb := pk_lt q (by decide)
            simp only [isAt, beq_iff_eq, List.length_cons, List.length_nil]
            rw [List.drop_eq_getElem_cons (by omega), List.take_succ_cons, List.drop_eq_getElem_cons (by omega), List.take_succ_cons]
            simp only [pk, byt, if_pos hb, if_pos (show k + 18 < l.length by omega), List.getD_eq_getElem?_getD, List.getElem?_eq_getElem hb, List.getElem?_eq_getElem (show k + 18 < l.length by omega), Option.getD_some] at q hq
            rw [UInt8.toNat_inj.mp (show l[k + 18].toNat = (13 : UInt8).toNat by show _ = 13; omega), UInt8.toNat_inj.mp (show l[k + 18 + 1].toNat = (10 : UInt8).toNat by show _ = 10; omega)]
            simp)))
          rw [le2, if_pos hq, if_neg h10]
        · rw [le2, if_neg (by omega), if_pos hq]
      rw [hj] at hpre
    all_goals
      walk_at "W"
      refine if_eq (fun hb => ?_) (fun hb => ?_)
      case' refine_1 => have hd : decide (pk l (k + 17) = 110) = true := decide_eq_true (hl1.mp (hlet ▸ hb))
      case' refine_2 => have hd : decide (pk l (k + 17) = 110) = false := decide_eq_false fun q => hb (hlet.trans (hl1.mpr q))
    all_goals
      rw [hd] at hpre
      walk_at "W"
      refine F_callE F (law_value_spec (k := k) (m := 10) hl) (by decide) ?_
      walk_at "W"
      refine F_callE F (law_value_spec (k := k + 11) (m := 5) hl) (by decide) ?_
      walk_at "W"
      exact ⟨(lineV_ok hpre).symm, rfl⟩
end
end BodyT4
section BodyT5
theorem fh_fg (l : List UInt8) : ∀ (m k : Nat), fh l k m = min m (fg l k - k)
  | 0, k => by simp [fh]
  | m + 1, k => by
    rw [fh]
    have hg := fg_ge l (k + 1)
    cases h : isFig (pk l k) with
    | true => rw [if_pos rfl, fh_fg l m (k + 1), fg_yes h]; omega
    | false => rw [if_neg (by decide), fg_no h]; omega
def cntsR (l : List UInt8) (k : Nat) : Nat → Except Nat (List Int × Nat)
  | 0 => .ok ([], k)
  | i + 1 => match cntsR l k i with
    | .error j => .error j
    | .ok (cs, kk) => match cntR l kk with
      | .error j => .error j
      | .ok (a, k1) => .ok (cs ++ [a], ws l k1)
theorem cntsR_len {l : List UInt8} {k : Nat} : ∀ {i kk : Nat} {cs : List Int}, cntsR l k i = .ok (cs, kk) → cs.length = i
  | 0, kk, cs, h => by cases h; rfl
  | i + 1, kk, cs, h => by
    rw [cntsR] at h
    split at h
    · cases h
    · rename_i cs' kk' e
      split at h
      · cases h
      · cases h; simp [cntsR_len e]
theorem cntsR_le {l : List UInt8} {k : Nat} (hk : k ≤ l.length) : ∀ {i kk : Nat} {cs : List Int}, cntsR l k i = .ok (cs, kk) → kk ≤ l.length ∧ k ≤ kk ∧ (∀ a ∈ cs, 0 ≤ a ∧ a < 10 ^ 20) ∧ (0 < i → k < kk)
  | 0, kk, cs, h => by cases h; exact ⟨hk, Nat.le_refl _, by simp, by omega⟩
  | i + 1, kk, cs, h => by
    rw [cntsR] at h
    split at h
    · cases h
    · rename_i cs' kk' e
      obtain ⟨h1, h2, h3, _⟩ := cntsR_le hk e
      split at h
      · cases h
      · rename_i a k1 e1
        cases h
        have g := cntR_ge e1 h1
        have g2 := ws_ge l k1
        have g3 := ws_le l k1 g.2
        exact ⟨g3, by omega, fun b hb => (List.mem_append.mp hb).elim (h3 b) fun q => by rw [List.mem_singleton.mp q]; exact cntR_nn e1, fun _ => by omega⟩
theorem secR_cnts (lim : Nat → Nat) (l : List UInt8) (T : Tab) (k : Nat) : secR lim l T k = match cntsR l k 2 with
    | .error j => .error j
    | .ok (cs, kk) => subR l (lim (cs.getD 1 0).toNat) (cs.getD 0 0) T kk := by
  rw [secR]
  simp only [cntsR, List.nil_append]
  cases h : cntR l k with
  | error j => rfl
  | ok x =>
    obtain ⟨a, k1⟩ := x
    simp only
    cases h2 : cntR l (ws l k1) with
    | error j => rfl
    | ok y => rfl
theorem cntsR_err2 {l : List UInt8} {k i j : Nat} (hi : i < 2) (h : cntsR l k (i + 1) = .error j) : cntsR l k 2 = .error j := by
  rcases (by omega : i = 0 ∨ i = 1) with rfl | rfl
  · rw [cntsR, h]
  · exact h
theorem gst_tT {T : Tab} {n : Int} (e : Ent) (h : has T n = false) : gst (tT T) n (tupE e) = tT (T ++ [(n, e)]) := by
  unfold gst
  have : (tT T).any (fun e => decide (e.1 = n)) = false := by
    unfold tT; rw [List.any_map]; exact h
  rw [this, if_neg (by decide), tT, tT, List.map_append]; rfl
theorem tupE_con (e : Ent) : ∀ x, tupE e ≠ .con x := fun x h => by unfold tupE at h; cases h
section
variable {p : Pm} {H : HM} {l : List UInt8}
local macro_rules | `(tactic| walk_at "h") => `(tactic| first | exact upd_same .. | assumption | (rw [upd_ne (by first | assumption | (apply Ne.symm; assumption))]; walk_at "h"))
abbrev l50 : Nat → Nat := fun n => min n 50
def ReadPost (H : HM) (l : List UInt8) (v : V) (H' : HM) : Prop :=
  (∃ T k E, readR l50 l = .ok (T, k) ∧ H E = none ∧ v = .tup [.ref E, .int (k : Int)] ∧ H' = upd H E (.dint (tT T))) ∨ (∃ j, readR l50 l = .error j ∧ v = .tup [.none, .int (j : Int)] ∧ H' = H)
set_option maxHeartbeats 1000000 in
theorem law_read_spec (hl : l.length ≤ 1000000) : CW p 10 (.ref 898) [.bytes l] H (ReadPost H l) NXc := by
  have hl' : l.length ≤ 16777216 := by omega
  refine CW.dropped (CW_0 (params := ["data"]) ["data", "at", "table", "counts", "turn", "many", "number", "entry"] ["_law_white", "_law_run", "_law_value", "_law_line", "range", "min", "len"] [some (.bytes l), none, none, none, none, none, none, none] (fun us h => match us, h with | [u], _ => rfl) ?_)
  intro c F hT hL
  have hw0 := ws_le l 0 (Nat.zero_le _)
  walk_at "W"
  refine K_AssignT2 F (by walk_at "gm") (by walk_at "gm") ?_
  walk_at "W"
  refine F_callE F (law_white_spec (k := 0) hl') (by decide) ?_
  walk_at "W"
  refine E_Dict0I fun E hE => ?_
  walk_at "W"
  refine ⟨_, _, rfl, ?_⟩
  walk_at "W"
  have hx : cut l (some ((ws l 0 : Nat) : Int)) (some ((ws l 0 + 4 : Nat) : Int)) = (l.drop (ws l 0)).take 4 := by rw [cut_gen l (by omega)]; congr 1; omega
  have hErr : ∀ {o : AObj} {j : Nat} {af : AF}, readR l50 l = .error j → af = .ret (.tup [.none, .int (j : Int)]) → ∃ H₂, Le H₂ (upd H E o) ∧ ReadPost H l (retV af) H₂ := fun h e => ⟨H, Le.upd _ hE, .inr ⟨_, h, by rw [e]; rfl, rfl⟩⟩
  refine if_ne (fun h => ?_) (fun h => ?_)
  · rw [hx] at h
    walk_at "W"
    exact hErr (by rw [readR, if_neg (by simpa [isAt] using h)]) rfl
  rw [hx] at h
  have hat : isAt l (ws l 0) [120, 114, 101, 102] = true := by simpa [isAt] using h
  have h4 := isAt_le hat (by simp)
  have hw4 := ws_le l _ h4
  have hRd : readR l50 l = tabR l50 l (l.length + 1) [] (ws l (ws l 0 + 4)) := by rw [readR, if_pos hat]
  walk_at "W"
  refine F_callE F (law_white_spec (k := ws l 0 + 4) hl') (by decide) ?_
  walk_at "W"
  refine K_While F (fun mm vals H' => ∃ m T k, vals = [some (.bytes l), some (.int ((k : Nat) : Int)), some (.ref E), none, none, none, none, none] ∧ H' = upd H E (.dint (tT T)) ∧ readR l50 l = tabR l50 l m T k ∧ T.length ≤ k ∧ k ≤ l.length ∧ l.length < m + k ∧ mm = l.length - k) _ _ (by walk_at "le") ⟨l.length + 1, [], _, rfl, rfl, hRd, Nat.zero_le _, hw4, by omega, rfl⟩ ?_
  rintro mm _ _ ⟨m, T, k, rfl, rfl, e0, hTk, hk, hm, rfl⟩
  obtain ⟨m, rfl⟩ : ∃ m', m = m' + 1 := ⟨m - 1, by omega⟩
  rw [tabR] at e0
  walk_at "W"
  refine F_callE F (law_run_spec (k := k) (m := 1) hl') (by decide) ?_
  walk_at "W"
  refine if_eq (fun h => ?_) (fun h => ?_)
  · have hfig : isFig (pk l k) = true := by
      cases q : isFig (pk l k) with
      | true => rfl
      | false => rw [fh, q] at h; simp at h
    rw [if_pos hfig] at e0
    walk_at "W"
    intro C hC
    obtain ⟨hCE, hHC⟩ := fresh_of hC
    walk_at "W"
    refine I_rngN (m := 2) rfl ?_
    refine ⟨fun i vals H' => i ≤ 2 ∧ ∃ cs kk, cntsR l k i = .ok (cs, kk) ∧ vals = [some (.bytes l), some (.int ((kk : Nat) : Int)), some (.ref E), some (.ref C), none, none, none, none] ∧ H' = upd (upd H E (.dint (tT T))) C (.list (cs.map .int)), _, by walk_at "le", ⟨by omega, [], k, rfl, rfl, rfl⟩, ?_, ?_⟩
    · rintro i x vals H₁ hx' ⟨hi, cs, kk, hcs, rfl, rfl⟩
      obtain ⟨hi2, rfl⟩ := rng_get hx'
      obtain ⟨g1, g2, g3, _⟩ := cntsR_le hk hcs
      have hcl := cntsR_len hcs
      have hf := fh_fg l 21 kk
      have hge := fg_ge l kk
      walk_at "W"
      refine F_callE F (law_run_spec (k := kk) (m := 21) hl') (by decide) ?_
      walk_at "W"
      have herr : (fg l kk = kk ∨ 20 < fg l kk - kk) → readR l50 l = .error kk := fun hq => by
        have h2 : cntsR l k (i + 1) = .error kk := by rw [cntsR, hcs]; simp only; rw [cntR, if_pos hq]
        rw [e0, secR_cnts, cntsR_err2 hi2 h2]
      refine if_dec (fun q1 => ?_) (fun q1 => ?_)
      · walk_at "W"
        refine if_ndec (fun q2 => ?_) (fun q2 => ?_)
        · walk_at "W"
          refine ⟨H, (Le.upd _ hE).trans (Le.upd _ (by rw [upd_ne hCE]; exact hHC)), .inr ⟨kk, herr (by omega), rfl, rfl⟩⟩
        · have hok : cntR l kk = .ok (dv ((l.drop kk).take (fh l kk 21)) 0, fg l kk) := by
            rw [cntR, if_neg (by omega), show fh l kk 21 = fg l kk - kk by omega]
          walk_at "W"
          refine G_append (by walk_at "h") ⟨.builtin, ?_⟩
          walk_at "W"
          refine F_callE F (law_value_spec (k := kk) (m := fh l kk 21) hl') (by decide) ?_
          walk_at "W"
          refine Os_append (by walk_at "h") (by simp; omega) ?_
          rw [upd_upd]
          walk_at "W"
          refine F_callE F (law_white_spec (k := kk + fh l kk 21) hl') (by decide) ?_
          rw [show kk + fh l kk 21 = fg l kk by omega]
          walk_at "W"
          refine Turn.nx (F := F) (vals := [_, _, _, _, none, none, none, none]) (by walk_at "le") ⟨by omega, _, _, by rw [cntsR, hcs]; simp only; rw [hok], rfl, ?_⟩
          simp
      · walk_at "W"
        refine if_nf ?_
        walk_at "W"
        refine ⟨H, (Le.upd _ hE).trans (Le.upd _ (by rw [upd_ne hCE]; exact hHC)), .inr ⟨kk, herr (by omega), rfl, rfl⟩⟩
    · rintro vals H₁ ⟨_, cs, kk, hcs, rfl, rfl⟩
      rw [rng_len] at hcs
      obtain ⟨g1, g2, g3, g4⟩ := cntsR_le hk hcs
      have hcl := cntsR_len hcs
      obtain ⟨a, b, rfl⟩ : ∃ a b, cs = [a, b] := by
        match cs, hcl with
        | [a, b], _ => exact ⟨a, b, rfl⟩
      have pa := g3 a (.head _)
      have pb := g3 b (.tail _ (.head _))
      have e1 : secR l50 l T k = subR l (min b.toNat 50) a T kk := by rw [secR_cnts, hcs]; rfl
      walk_at "W"
      refine O_item_list (vs := [.int a, .int b]) (by walk_at "h") (by decide) (by decide) rfl ?_
      walk_at "W"
      refine O_item_list (vs := [.int a, .int b]) (by walk_at "h") (by decide) (by decide) rfl ?_
      walk_at "W"
      refine O_item_list (vs := [.int a, .int b]) (by walk_at "h") (by decide) (by decide) rfl ?_
      walk_at "W"
      refine Os_min2 ?_
      walk_at "W"
      refine I_rngN (m := min b.toNat 50) (by omega) ?_
      refine ⟨fun i vals H' => ∃ Ti ki, vals = [some (.bytes l), some (.int ((ki : Nat) : Int)), some (.ref E), some (.ref C), none, none, none, none] ∧ H' = upd (upd H E (.dint (tT Ti))) C (.list [.int a, .int b]) ∧ i ≤ min b.toNat 50 ∧ subR l (min b.toNat 50) a T kk = subR l (min b.toNat 50 - i) (a + i) Ti ki ∧ Ti.length ≤ ki ∧ ki ≤ l.length ∧ kk ≤ ki, _, by walk_at "le", ⟨T, kk, rfl, rfl, Nat.zero_le _, by simp, by omega, g1, Nat.le_refl _⟩, ?_, ?_⟩
      · rintro i x vals H₁ hx' ⟨Ti, ki, rfl, rfl, hi, e2, hTi, hki, hkk⟩
        obtain ⟨hi2, rfl⟩ := rng_get hx'
        rw [show min b.toNat 50 - i = (min b.toNat 50 - (i + 1)) + 1 by omega, subR] at e2
        have herr : ∀ {j : Nat}, subR l (min b.toNat 50) a T kk = .error j → readR l50 l = .error j := fun hq => by rw [e0, e1, hq]
        have hle2 : ∀ o o', Le H (upd (upd H E o) C o') := fun o o' => (Le.upd _ hE).trans (Le.upd _ (by rw [upd_ne hCE]; exact hHC))
        walk_at "W"
        refine O_in_dint (es := tT Ti) (by walk_at "h") ?_
        rw [gva_tT]
        walk_at "W"
        refine if_b (fun q => ?_) (fun q => ?_)
        · rw [if_pos q] at e2
          walk_at "W"
          exact ⟨H, hle2 _ _, .inr ⟨ki, herr e2, rfl, rfl⟩⟩
        rw [if_neg (by rw [q]; decide)] at e2
        walk_at "W"
        refine if_dec (fun q2 => ?_) (fun q2 => ?_)
        · rw [if_pos (by omega)] at e2
          walk_at "W"
          exact ⟨H, hle2 _ _, .inr ⟨ki, herr e2, rfl, rfl⟩⟩
        rw [if_neg (by omega)] at e2
        walk_at "W"
        refine F_callE F (law_line_spec (k := ki) hl' hki) (by decide) ?_
        cases hen : entR l ki with
        | error j =>
          rw [hen] at e2
          rw [lineV_err hen]
          walk_at "W"
          refine O_is_none (by intro x h; cases h) ?_
          walk_at "W"
          refine if_t ?_
          walk_at "W"
          exact ⟨H, hle2 _ _, .inr ⟨j, herr e2, rfl, rfl⟩⟩
        | ok x =>
          obtain ⟨e, j⟩ := x
          rw [hen] at e2
          rw [lineV_ok hen]
          have ge := entR_gt hen
          walk_at "W"
          refine O_is_none (tupE_con e) ?_
          walk_at "W"
          refine if_f ?_
          walk_at "W"
          refine U_set_dint (es := tT Ti) (by walk_at "h") (by simp [tT]; omega) ?_
          rw [upd_comm _ _ _ hCE, upd_upd, gst_tT e q]
          walk_at "W"
          refine Turn.nx (F := F) (vals := [_, _, _, _, none, none, none, none]) (by walk_at "le") ⟨_, j, rfl, rfl, by omega, ?_, by simp; omega, ge.2, by omega⟩
          rw [e2]; simp only []; rw [show a + (i : Int) + 1 = a + ((i + 1 : Nat) : Int) by omega]
      · rintro vals H₁ ⟨Ti, ki, rfl, rfl, _, e2, hTi, hki, hkk⟩
        rw [rng_len, Nat.sub_self, subR] at e2
        have hws := ws_le l ki hki
        have hwg := ws_ge l ki
        have := g4 (by decide)
        refine SW.drop (Le.upd _ (show upd H E (.dint (tT Ti)) C = none by rw [upd_ne hCE]; exact hHC)) ?_
        walk_at "W"
        refine F_callE F (law_white_spec (k := ki) hl') (by decide) ?_
        walk_at "W"
        refine Turn.nx (F := F) (vals := [_, _, _, none, none, none, none, none]) (by walk_at "le") ⟨l.length - ws l ki, by omega, m, Ti, _, rfl, rfl, by rw [e0, e1, e2], by omega, hws, by omega, rfl⟩
  · have hfig : isFig (pk l k) = false := by
      cases q : isFig (pk l k) with
      | false => rfl
      | true => rw [fh, q] at h; simp [fh] at h
    rw [if_neg (by rw [hfig]; decide)] at e0
    have hx2 : cut l (some ((k : Nat) : Int)) (some ((k + 7 : Nat) : Int)) = (l.drop k).take 7 := by rw [cut_gen l (by omega)]; congr 1; omega
    walk_at "W"
    refine if_eq (fun h2 => ?_) (fun h2 => ?_)
    · rw [hx2] at h2
      rw [if_pos (by simpa [isAt] using h2)] at e0
      walk_at "W"
      exact ⟨_, Le.refl _, .inl ⟨T, k, E, e0, hE, rfl, rfl⟩⟩
    · rw [hx2] at h2
      rw [if_neg (by simpa [isAt] using h2)] at e0
      walk_at "W"
      exact hErr e0 rfl
end
end BodyT5
end Group23
section Group24
local macro_rules | `(tactic| walk_at "hv") => `(tactic| first
  | ((show EW _ _ _ _ (eval (Expr.Call (Expr.Name (Str.ofString "_law_draw") _) _ _ _) _) _ _); (refine C_fn (by assumption) (by walk_at "gm") (c_law_draw _) ?_))
  | ((show EW _ _ _ _ (eval (Expr.Call (Expr.Name (Str.ofString "_law_pick") _) _ _ _) _) _ _); (refine C_fn (by assumption) (by walk_at "gm") (c_law_pick _) ?_))
  | ((show EW _ _ _ _ (eval (Expr.Call (Expr.Name (Str.ofString "len") _) _ _ _) _) _ _); (refine C_bt (by assumption) (by walk_at "gm") (c_len _) ?_))
  | ((show EW _ _ _ _ (eval (Expr.Call (Expr.Name (Str.ofString "int") _) _ _ _) _) _ _); (refine C_bt (by assumption) (by walk_at "gm") (c_int _) ?_))
  | ((show EW _ _ _ _ (eval (Expr.Call (Expr.Name (Str.ofString "abs") _) _ _ _) _) _ _); (refine C_bt (by assumption) (by walk_at "gm") (c_abs _) ?_))
  | ((show EW _ _ _ _ (eval (Expr.Call (Expr.Name (Str.ofString "range") _) _ _ _) _) _ _); (refine C_bt (by assumption) (by walk_at "gm") (c_range _) ?_)))
local macro_rules | `(tactic| walk_at "hr") => `(tactic| first
  | (refine Os_range1 ?_)
  | (refine Os_range2 ?_))
section BodyT6
def Pen (H : HM) (P C : Addr) (n x : Int) (cs : List Int) : HM := upd (upd H P (.list [.ref C, .int n, .int x])) C (.list (cs.map .int))
section
variable {p : Pm} {H : HM} {P C : Addr} {n x : Int} {cs : List Int}
theorem Pen_p (h : P ≠ C) : Pen H P C n x cs P = some (.list [.ref C, .int n, .int x]) := by unfold Pen; rw [upd_ne h]; exact upd_same ..
theorem Pen_c : Pen H P C n x cs C = some (.list (cs.map .int)) := upd_same ..
theorem Pen_ne {a : Addr} (h1 : a ≠ P) (h2 : a ≠ C) : Pen H P C n x cs a = H a := by unfold Pen; rw [upd_ne h2, upd_ne h1]
theorem Pen_setP (h : P ≠ C) {n' x' : Int} : upd (Pen H P C n x cs) P (.list [.ref C, .int n', .int x']) = Pen H P C n' x' cs := by unfold Pen; rw [upd_comm _ _ _ h.symm, upd_upd]
theorem Pen_setC {cs' : List Int} : upd (Pen H P C n x cs) C (.list (cs'.map .int)) = Pen H P C n x cs' := by unfold Pen; rw [upd_upd]
theorem Pen_upd {a : Addr} {o : AObj} (h1 : a ≠ P) (h2 : a ≠ C) : upd (Pen H P C n x cs) a o = Pen (upd H a o) P C n x cs := by unfold Pen; rw [upd_comm _ _ _ h2.symm, upd_comm _ _ _ h1.symm]
theorem Pen_set2 (h : P ≠ C) {y y' : Int} : upd (Pen H P C n y cs) P (.list (([.ref C, .int n, .int y] : List V).set (2 : Int).toNat (.int y'))) = Pen H P C n y' cs := Pen_setP h
theorem frOf {m : Nat} {c : Cx} {xs gs : List Str} (F : Fn p m c xs gs) (hT : c.Top) : ∃ env l, c.fr = env :: l ∧ env.scope.isGenerator = false ∧ env.scope.isCoroutine = false ∧ env.builtins = builtinsNs ∧ env.globals = mainGlobals := by
  obtain ⟨l, L, h1, h2⟩ := hT
  exact ⟨c.env, l, h1, F.gen, F.cor, F.boot, F.glob⟩
theorem law_draw_spec {m : Nat} (hm : 0 < m) (hPC : P ≠ C) (hc : cs.length ≤ 63) : CW p 120 (.ref 837) [.ref P, .int (m : Int)] (Pen H P C n x cs)
    (fun v H' => ∃ (d : Nat) (n' x' : Int) (cs' : List Int), v = .int (d : Int) ∧ d < m ∧ cs'.length ≤ 63 ∧ H' = Pen H P C n' x' cs') NXc := by
  refine CW.dropped (CW_0 (params := ["pen", "many"]) ["pen", "many", "digit"] ["int"] [some (.ref P), some (.int (m : Int)), none] (fun us h => match us, h with | [u, v], _ => rfl) ?_)
  intro c F hT hL
  have fin : ∀ {n1 x1 : Int} {cs1 : List Int}, cs1.length ≤ 63 → ∃ H₂, Le H₂ (Pen H P C n1 (x1.fdiv m) cs1) ∧ ∃ (d : Nat) (n' x' : Int) (cs' : List Int), V.int ((x1.fmod (m : Int) + n1).fmod (m : Int)) = .int (d : Int) ∧ d < m ∧ cs'.length ≤ 63 ∧ H₂ = Pen H P C n' x' cs' := fun {n1 x1 cs1} h1 => by
    have e0 := Int.fmod_nonneg_of_pos (x1.fmod (m : Int) + n1) (show (0 : Int) < m by omega)
    have e1 := Int.fmod_lt_of_pos (x1.fmod (m : Int) + n1) (show (0 : Int) < m by omega)
    exact ⟨_, Le.refl _, ((x1.fmod (m : Int) + n1).fmod (m : Int)).toNat, n1, _, cs1, by rw [Int.toNat_of_nonneg e0], by omega, h1, rfl⟩
  walk_at "W"
  refine O_item_list (Pen_p hPC) (by decide) (by decide) rfl ?_
  walk_at "W"
  refine U_set_list (Pen_p hPC) (by decide) (by simp) (by simp) ?_
  rw [show ([.ref C, .int n, .int x] : List V).set (1 : Int).toNat (.int (n + 1)) = [.ref C, .int (n + 1), .int x] from rfl, Pen_setP hPC]
  walk_at "W"
  refine O_item_list (Pen_p hPC) (by decide) (by decide) rfl ?_
  walk_at "W"
  refine if_eq (fun h0 => ?zero) (fun h0 => ?nonz)
  case' zero =>
    walk_at "W"
    refine O_item_list (Pen_p hPC) (by decide) (by decide) rfl ?_
    walk_at "W"
    intro b0 hb0
    have hCb : C ≠ b0 := ne_of_some Pen_c hb0
    refine O_neL0 (vs := cs.map .int) (by rw [upd_ne hCb]; exact Pen_c) (upd_same ..) ?_
    refine T_bool ?_
    rw [List.isEmpty_map]
    refine if_nb (fun he => ?full) (fun he => ?empty)
    case' full =>
      obtain ⟨c0, cs', rfl⟩ : ∃ c0 cs', cs = c0 :: cs' := by
        cases cs with
        | nil => simp at he
        | cons a b => exact ⟨a, b, rfl⟩
      refine BW.drop (Le.upd _ hb0) ?_
      walk_at "W"
      refine O_item_list (Pen_p hPC) (by decide) (by decide) rfl ?_
      refine G_pop Pen_c ⟨.builtin, ?_⟩
      walk_at "W"
      refine Os_pop0 (v := .int c0) (vs := cs'.map .int) Pen_c (by simp at hc ⊢; omega) ?_
      rw [Pen_setC]
      walk_at "W"
      refine U_set_list (Pen_p hPC) (by decide) (by simp) (by simp) ?_
      rw [show ([.ref C, .int (n + 1), .int x] : List V).set (2 : Int).toNat (.int c0) = [.ref C, .int (n + 1), .int c0] from rfl, Pen_setP hPC]
      have hc : cs'.length ≤ 63 := by simp at hc; omega
    case' empty => refine SW.drop (Le.upd _ hb0) ?_
  all_goals
    walk_at "W"
    refine O_item_list (Pen_p hPC) (by decide) (by decide) rfl ?_
    walk_at "W"
    refine Os_int_int ?_
    walk_at "W"
    refine O_mod (by omega) ?_
    walk_at "W"
    refine O_item_list (Pen_p hPC) (by decide) (by decide) rfl ?_
    walk_at "W"
    refine Os_int_int ?_
    walk_at "W"
    refine O_div (by omega) ?_ (by have := F.n; omega) (frOf F hT)
    walk_at "W"
    refine U_set_list (Pen_p hPC) (by decide) (by simp) (by simp) ?_
    rw [Pen_set2 hPC]
    walk_at "W"
    refine O_item_list (Pen_p hPC) (by decide) (by decide) rfl ?_
    walk_at "W"
    refine O_mod (by omega) ?_
    exact fin hc
end
end BodyT6
section BodyT7
section
variable {p : Pm} {H : HM} {P C S A : Addr} {n x : Int} {cs ns : List Int} {vs : List V}
theorem law_pick_spec (hPC : P ≠ C) (hc : cs.length ≤ 63) (hAP : A ≠ P) (hAC : A ≠ C) (hA : H A = some (.list vs)) (hv : vs ≠ []) (hl : vs.length ≤ 1000) : CW p 122 (.ref 844) [.ref P, .ref A] (Pen H P C n x cs)
    (fun v H' => ∃ (n' x' : Int) (cs' : List Int), v ∈ vs ∧ cs'.length ≤ 63 ∧ H' = Pen H P C n' x' cs') NXc := by
  refine CW_0 (params := ["pen", "some"]) ["pen", "some"] ["_law_draw", "len"] [some (.ref P), some (.ref A)] (fun us h => match us, h with | [u, v], _ => rfl) ?_
  intro c F hT hL
  have oA : ∀ {n x : Int} {cs : List Int}, Pen H P C n x cs A = some (.list vs) := fun {n x cs} => by rw [Pen_ne hAP hAC]; exact hA
  have hpos : 0 < vs.length := List.length_pos_iff.mpr hv
  walk_at "W"
  refine Os_len_list oA (by omega) ?_
  walk_at "W"
  refine F.call (law_draw_spec hpos hPC hc) (by decide) ?_ (fun _ _ _ h => h.elim)
  rintro v H' ⟨d, n', x', cs', rfl, hd, hc', rfl⟩
  walk_at "W"
  refine O_item_list (v := vs[d]) oA (by omega) (by omega) (by rw [Int.toNat_natCast]; exact List.getElem?_eq_getElem hd) ?_
  exact ⟨n', x', cs', List.getElem_mem hd, hc', rfl⟩
end
end BodyT7
end Group24
section Group25
local macro_rules | `(tactic| walk_at "hv") => `(tactic| first
  | ((show EW _ _ _ _ (eval (Expr.Call (Expr.Name (Str.ofString "_law_draw") _) _ _ _) _) _ _); (refine C_fn (by assumption) (by walk_at "gm") (c_law_draw _) ?_))
  | ((show EW _ _ _ _ (eval (Expr.Call (Expr.Name (Str.ofString "_law_pick") _) _ _ _) _) _ _); (refine C_fn (by assumption) (by walk_at "gm") (c_law_pick _) ?_))
  | ((show EW _ _ _ _ (eval (Expr.Call (Expr.Name (Str.ofString "len") _) _ _ _) _) _ _); (refine C_bt (by assumption) (by walk_at "gm") (c_len _) ?_))
  | ((show EW _ _ _ _ (eval (Expr.Call (Expr.Name (Str.ofString "range") _) _ _ _) _) _ _); (refine C_bt (by assumption) (by walk_at "gm") (c_range _) ?_)))
local macro_rules | `(tactic| walk_at "hr") => `(tactic| first
  | (refine Os_range1 ?_)
  | (refine Os_range2 ?_))
section BodyT8
theorem flatT_app : ∀ (r r' : List Sec), flatT (r ++ r') = flatT r ++ flatT r'
  | [], r' => rfl
  | s :: r, r' => by rw [List.cons_append, flatT, flatT, flatT_app r r', List.append_assoc]
theorem flatT_snoc (r : List Sec) (m : Nat) (es : List EntN) : flatT (r ++ [(m, es)]) = flatT r ++ runT m es := by rw [flatT_app]; simp [flatT]
theorem runT_snoc : ∀ (es : List EntN) (m : Nat) (e : EntN), runT m (es ++ [e]) = runT m es ++ [(((m + es.length : Nat) : Int), entV e)]
  | [], m, e => rfl
  | x :: es, m, e => by rw [List.cons_append, runT, runT, runT_snoc es]; simp only [List.cons_append, List.length_cons]; rw [show m + 1 + es.length = m + (es.length + 1) by omega]
theorem flatT_len : ∀ {r : List Sec}, (∀ s ∈ r, s.2.length ≤ 3) → (flatT r).length ≤ 3 * r.length
  | [], _ => by simp [flatT]
  | s :: r, h => by
    have ih := flatT_len (r := r) fun s hs => h s (.tail _ hs)
    have := h s (.head _)
    simp only [flatT, List.length_append, runT_len, List.length_cons]; omega
def SecFine (s : Sec) : Prop := s.2 ≠ [] ∧ (∀ e ∈ s.2, EntOk e) ∧ s.1 < 10 ^ 20 ∧ s.2.length ≤ 50
theorem SecsOk_snoc : ∀ {r : List Sec} {lo : Nat} {s s' : Sec}, SecsOk lo (r ++ [s]) → s.1 + s.2.length + 1 ≤ s'.1 → SecFine s' → SecsOk lo (r ++ [s] ++ [s'])
  | [], lo, s, s', h, h1, h2 => by
    obtain ⟨a, b, d, e, f, _⟩ := h
    exact ⟨a, b, d, e, f, h1, h2.1, h2.2.1, h2.2.2.1, h2.2.2.2, trivial⟩
  | x :: r, lo, s, s', h, h1, h2 => by
    obtain ⟨a, b, d, e, f, g⟩ := h
    exact ⟨a, b, d, e, f, SecsOk_snoc g h1 h2⟩
def Ext (r : List Sec) (m : Nat) : Prop := (∀ es, SecFine (m, es) → SecsOk 0 (r ++ [(m, es)])) ∧ Below (flatT r) m
theorem Ext.next {r : List Sec} {m m' : Nat} {es : List EntN} (h : Ext r m) (hf : SecFine (m, es)) (hm : m + es.length + 1 ≤ m') : Ext (r ++ [(m, es)]) m' :=
  ⟨fun es' h' => SecsOk_snoc (h.1 es hf) hm h', by rw [flatT_snoc]; exact (h.2.mono (by omega)).app (runT_below.mono (by omega))⟩
theorem Ext.no {r : List Sec} {m : Nat} {es : List EntN} (h : Ext r m) : has (flatT (r ++ [(m, es)])) ((m + es.length : Nat) : Int) = false := by
  rw [flatT_snoc]; exact Below.has ((h.2.mono (by omega)).app runT_below)
section
variable {p : Pm} {H : HM} {P C : Addr} {n x : Int} {cs : List Int}
theorem U1.drop {p : Pm} {c : Cx} {ρ : LM} {H H' : HM} {X : XQ} {f : Value → Sem Unit} {v : V} {Q : LM → HM → Prop} (k : Le H' H) (h : U1 p c ρ H' f v Q X) : U1 p c ρ H f v Q X := fun Z Fo s u hn r => h Z Fo s u (hn.drop k) r
theorem Pen_le {H' : HM} (h : Le H H') : Le (Pen H P C n x cs) (Pen H' P C n x cs) := LeUpd2 (LeUpd2 h)
structure Drawn (r : List Sec) : Prop where
  ok : SecsOk 0 r
  ne : r ≠ []
  few : r.length ≤ 3
  ents : ∀ s ∈ r, s.2.length ≤ 3
  low : ∀ s ∈ r, s.1 ≤ 300
set_option maxHeartbeats 1000000 in
theorem law_table_spec (hPC : P ≠ C) (hc : cs.length ≤ 63) (hP : H P = none) (hC : H C = none) : CW p 125 (.ref 851) [.ref P] (Pen H P C n x cs)
    (fun v H' => ∃ (r : List Sec) (E : Addr) (n' x' : Int) (cs' : List Int), Drawn r ∧ H E = none ∧ E ≠ P ∧ E ≠ C ∧ cs'.length ≤ 63 ∧ v = .ref E ∧ H' = Pen (upd H E (.dint (tT (flatT r)))) P C n' x' cs') NXc := by
  refine CW_0 (params := ["pen"]) ["pen", "table", "number", "turn", "spot", "one", "two"] ["_law_draw", "_law_pick", "range"] [some (.ref P), none, none, none, none, none, none] (fun us h => match us, h with | [u], _ => rfl) ?_
  intro c F hT hL
  walk_at "W"
  refine K_AssignT2 F (by walk_at "gm") (by walk_at "gm") ?_
  walk_at "W"
  refine E_Dict0I fun E hE => ?_
  have hEP : E ≠ P := fun q => by rw [q, Pen_p hPC] at hE; cases hE
  have hEC : E ≠ C := fun q => by rw [q, Pen_c] at hE; cases hE
  rw [Pen_ne hEP hEC] at hE
  rw [Pen_upd hEP hEC]
  walk_at "W"
  refine F.call (law_draw_spec (m := 3) (by decide) hPC hc) (by decide) ?_ (fun _ _ _ h => h.elim)
  rintro v H' ⟨d0, n0, x0, cs0, rfl, hd0, hc0, rfl⟩
  walk_at "W"
  refine ⟨_, _, rfl, ?_⟩
  walk_at "W"
  refine F.call (law_draw_spec (m := 3) (by decide) hPC hc0) (by decide) ?_ (fun _ _ _ h => h.elim)
  rintro v H' ⟨d1, n1, x1, cs1, rfl, hd1, hc1, rfl⟩
  walk_at "W"
  refine I_rngN (m := 1 + d1) (by omega) ?_
  refine ⟨fun i vals H' => ∃ (r : List Sec) (m : Nat) (n x : Int) (cs : List Int), r.length = i ∧ i ≤ 1 + d1 ∧ Ext r m ∧ m ≤ 3 + 100 * i ∧ (0 < i → SecsOk 0 r) ∧ (∀ s ∈ r, s.2.length ≤ 3 ∧ s.1 ≤ 300) ∧ cs.length ≤ 63 ∧ vals = [some (.ref P), some (.ref E), some (.int (m : Int)), none, none, none, none] ∧ H' = Pen (upd H E (.dint (tT (flatT r)))) P C n x cs, _, by walk_at "le",
    ⟨[], d0, n1, x1, cs1, rfl, by omega, ⟨fun es hf => ⟨Nat.zero_le _, hf.1, hf.2.1, hf.2.2.1, hf.2.2.2, trivial⟩, fun e he => by cases he⟩, by omega, by omega, by simp, hc1, rfl, rfl⟩, ?_, ?_⟩
  · rintro i x' vals H₁ hx' ⟨r, m, n2, x2, cs2, hri, hi, hext, hm, hok, hall, hc2, rfl, rfl⟩
    obtain ⟨hi2, rfl⟩ := rng_get hx'
    walk_at "W"
    refine F.call (law_draw_spec (m := 3) (by decide) hPC hc2) (by decide) ?_ (fun _ _ _ h => h.elim)
    rintro v H' ⟨d2, n3, x3, cs3, rfl, hd2, hc3, rfl⟩
    walk_at "W"
    refine I_rngN (m := 1 + d2) (by omega) ?_
    refine ⟨fun j vals H' => ∃ (es : List EntN) (n x : Int) (cs : List Int), es.length = j ∧ j ≤ 1 + d2 ∧ (∀ e ∈ es, EntOk e) ∧ cs.length ≤ 63 ∧ vals = [some (.ref P), some (.ref E), some (.int ((m + j : Nat) : Int)), none, none, none, none] ∧ H' = Pen (upd H E (.dint (tT (flatT (r ++ [(m, es)]))))) P C n x cs, _, by walk_at "le",
      ⟨[], n3, x3, cs3, rfl, by omega, by simp, hc3, rfl, by rw [flatT_snoc]; simp [runT]⟩, ?_, ?_⟩
    · rintro j x' vals H₁ hx' ⟨es, n4, x4, cs4, hej, hj, heo, hc4, rfl, rfl⟩
      obtain ⟨hj2, rfl⟩ := rng_get hx'
      generalize hB : upd H E (.dint (tT (flatT (r ++ [(m, es)])))) = B
      walk_at "W"
      refine F.call (law_draw_spec (m := 1000) (by decide) hPC hc4) (by decide) ?_ (fun _ _ _ h => h.elim)
      rintro v H' ⟨e1, n5, x5, cs5, rfl, he1, hc5, rfl⟩
      walk_at "W"
      refine O_pow10 (m := 10) (by decide) ?_
      walk_at "W"
      refine F.call (law_draw_spec (m := 10 ^ 10) (by decide) hPC hc5) (by decide) ?_ (fun _ _ _ h => h.elim)
      rintro v H' ⟨e2, n6, x6, cs6, rfl, he2, hc6, rfl⟩
      walk_at "W"
      intro A hA
      have hAP : A ≠ P := fun q => by rw [q, Pen_p hPC] at hA; cases hA
      have hAC : A ≠ C := fun q => by rw [q, Pen_c] at hA; cases hA
      rw [Pen_ne hAP hAC] at hA
      rw [Pen_upd hAP hAC]
      walk_at "W"
      refine F.call (law_pick_spec hPC hc6 hAP hAC (upd_same ..) (by simp) (by simp)) (by decide) ?_ (fun _ _ _ h => h.elim)
      rintro v H' ⟨n7, x7, cs7, hv, hc7, rfl⟩
      obtain ⟨one, rfl, hone⟩ : ∃ one : Nat, v = .int (one : Int) ∧ one < 10 ^ 10 := by
        simp only [List.mem_cons, List.not_mem_nil, or_false] at hv
        rcases hv with rfl | rfl | rfl | rfl
        · exact ⟨e1, rfl, by omega⟩
        · exact ⟨0, rfl, by decide⟩
        · exact ⟨9999999999, rfl, by decide⟩
        · exact ⟨e2, rfl, he2⟩
      walk_at "W"
      refine Os.drop (Pen_le (Le.upd _ hA)) ?_
      refine F.call (law_draw_spec (m := 65536) (by decide) hPC hc7) (by decide) ?_ (fun _ _ _ h => h.elim)
      rintro v H' ⟨e3, n8, x8, cs8, rfl, he3, hc8, rfl⟩
      walk_at "W"
      intro A2 hA2
      have hA2P : A2 ≠ P := fun q => by rw [q, Pen_p hPC] at hA2; cases hA2
      have hA2C : A2 ≠ C := fun q => by rw [q, Pen_c] at hA2; cases hA2
      rw [Pen_ne hA2P hA2C] at hA2
      rw [Pen_upd hA2P hA2C]
      walk_at "W"
      refine F.call (law_pick_spec hPC hc8 hA2P hA2C (upd_same ..) (by simp) (by simp)) (by decide) ?_ (fun _ _ _ h => h.elim)
      rintro v H' ⟨n9, x9, cs9, hv, hc9, rfl⟩
      obtain ⟨two, rfl, htwo⟩ : ∃ two : Nat, v = .int (two : Int) ∧ two ≤ 65535 := by
        simp only [List.mem_cons, List.not_mem_nil, or_false] at hv
        rcases hv with rfl | rfl | rfl | rfl
        · exact ⟨0, rfl, by decide⟩
        · exact ⟨65535, rfl, by decide⟩
        · exact ⟨e3, rfl, by omega⟩
        · exact ⟨1, rfl, by decide⟩
      refine U1.drop (Pen_le (Le.upd _ hA2)) ?_
      walk_at "W"
      intro A3 hA3
      have hA3P : A3 ≠ P := fun q => by rw [q, Pen_p hPC] at hA3; cases hA3
      have hA3C : A3 ≠ C := fun q => by rw [q, Pen_c] at hA3; cases hA3
      rw [Pen_ne hA3P hA3C] at hA3
      rw [Pen_upd hA3P hA3C]
      walk_at "W"
      refine F.call (law_pick_spec hPC hc9 hA3P hA3C (upd_same ..) (by simp) (by simp)) (by decide) ?_ (fun _ _ _ h => h.elim)
      rintro v H' ⟨n10, x10, cs10, hv, hc10, rfl⟩
      obtain ⟨b, rfl⟩ : ∃ b : Bool, v = .str (wayS b) := by
        simp only [List.mem_cons, List.not_mem_nil, or_false] at hv
        rcases hv with rfl | rfl
        · exact ⟨true, rfl⟩
        · exact ⟨false, rfl⟩
      subst hB
      have hEA3 : E ≠ A3 := fun q => by rw [← q, upd_same] at hA3; cases hA3
      walk_at "W"
      refine U_set_dint (es := tT (flatT (r ++ [(m, es)]))) (by rw [Pen_ne hEP hEC, upd_ne hEA3]; exact upd_same ..) (by
        have := flatT_len (r := r) fun s hs => (hall s hs).1
        rw [flatT_snoc]
        simp only [tT, List.length_map, List.length_append, runT_len]; omega) ?_
      have hEn := hext.no (es := es)
      have hgst : gst (tT (flatT (r ++ [(m, es)]))) ((m + j : Nat) : Int) (.tup [.str (wayS b), .int (one : Int), .int (two : Int)]) = tT (flatT (r ++ [(m, es ++ [(b, one, two)])])) := by
        rw [hej] at hEn
        rw [show V.tup [.str (wayS b), .int (one : Int), .int (two : Int)] = tupE (entV (b, one, two)) from rfl, gst_tT _ hEn, flatT_snoc, flatT_snoc, runT_snoc, hej, List.append_assoc]
      rw [hgst, Pen_upd hEP hEC]
      refine SW.drop (Pen_le (P := P) (C := C) (H := upd H E (.dint (tT (flatT (r ++ [(m, es ++ [(b, one, two)])]))))) ?_) ?_
      · rw [upd_comm _ _ _ hEA3.symm, upd_upd]
        exact Le.upd _ (by obtain ⟨_, q⟩ := fresh_of hA3; rw [upd_ne hEA3.symm]; exact q)
      walk_at "W"
      refine Turn.nx (F := F) (vals := [_, _, _, none, none, none, none]) (by walk_at "le") ⟨es ++ [(b, one, two)], n10, x10, cs10, by simp [hej], by omega, ?_, hc10, rfl, rfl⟩
      intro e he
      rcases List.mem_append.mp he with he | he
      · exact heo e he
      · rw [List.mem_singleton.mp he]; exact ⟨hone, htwo⟩
    · rintro vals H₁ ⟨es, n4, x4, cs4, hej, hj, heo, hc4, rfl, rfl⟩
      rw [rng_len] at hej
      have hfine : SecFine (m, es) := ⟨fun q => by have q' : es = [] := q; subst q'; simp at hej; omega, heo, by show m < _; omega, by show es.length ≤ 50; omega⟩
      walk_at "W"
      refine F.call (law_draw_spec (m := 90) (by decide) hPC hc4) (by decide) ?_ (fun _ _ _ h => h.elim)
      rintro v H' ⟨d3, n5, x5, cs5, rfl, hd3, hc5, rfl⟩
      walk_at "W"
      refine Turn.nx (F := F) (vals := [_, _, _, none, none, none, none]) (by walk_at "le") ⟨r ++ [(m, es)], m + (1 + d2) + 1 + d3, n5, x5, cs5, by simp [hri], by omega, hext.next hfine (by omega), by omega, fun _ => hext.1 es hfine, ?_, hc5, ?_, rfl⟩
      · intro s hs
        rcases List.mem_append.mp hs with hs | hs
        · exact hall s hs
        · rw [List.mem_singleton.mp hs]; exact ⟨by show es.length ≤ 3; omega, by show m ≤ 300; omega⟩
      · rw [rng_len]
  · rintro vals H₁ ⟨r, m, n2, x2, cs2, hri, hi, hext, hm, hok, hall, hc2, rfl, rfl⟩
    rw [rng_len] at hri hok
    walk_at "W"
    exact ⟨r, E, n2, x2, cs2, ⟨hok (by omega), fun q => by rw [q] at hri; simp at hri; omega, by omega, fun s hs => (hall s hs).1, fun s hs => (hall s hs).2⟩, hE, hEP, hEC, hc2, rfl, rfl⟩
end
end BodyT8
end Group25
section Group26
local macro_rules | `(tactic| walk_at "hv") => `(tactic| first
  | ((show EW _ _ _ _ (eval (Expr.Call (Expr.Name (Str.ofString "write_classic") _) _ _ _) _) _ _); (refine C_fn (by assumption) (by walk_at "gm") (c_write_classic _) ?_))
  | ((show EW _ _ _ _ (eval (Expr.Call (Expr.Name (Str.ofString "_law_draw") _) _ _ _) _) _ _); (refine C_fn (by assumption) (by walk_at "gm") (c_law_draw _) ?_))
  | ((show EW _ _ _ _ (eval (Expr.Call (Expr.Name (Str.ofString "_law_pick") _) _ _ _) _) _ _); (refine C_fn (by assumption) (by walk_at "gm") (c_law_pick _) ?_))
  | ((show EW _ _ _ _ (eval (Expr.Call (Expr.Name (Str.ofString "len") _) _ _ _) _) _ _); (refine C_bt (by assumption) (by walk_at "gm") (c_len _) ?_)))
section BodyT9
theorem cut_to (l : List UInt8) (b : Nat) : cut l none (some (b : Int)) = l.take b := by
  have e := clipAt_nat l.length b
  simp only [cut, Option.elim, e, List.drop_zero, Nat.sub_zero]
  rcases Nat.le_total b l.length with h | h
  · first | rw [Nat.min_eq_left h] | rw [Nat.min_eq_right h]
  · rw [List.take_of_length_le (by omega), List.take_of_length_le h]
theorem cut_from (l : List UInt8) (b : Nat) : cut l (some (b : Int)) none = l.drop b := by
  have e := clipAt_nat l.length b
  simp only [cut, Option.elim, e]
  rcases Nat.le_total b l.length with h | h
  · rw [show min b l.length = b by omega, List.take_of_length_le (by simp)]
  · rw [List.drop_eq_nil_of_le h, List.drop_eq_nil_of_le (by omega)]; simp
def bentS : List (List UInt8) := [[48], [32], [57], [10], [110], [13], [37], [120], [102], []]
section
variable {p : Pm} {H : HM} {P C : Addr} {n x : Int} {cs : List Int} {l : List UInt8} {w : Str} {i1 j1 : Int}
theorem law_bent_spec (hPC : P ≠ C) (hc : cs.length ≤ 63) (h0 : 0 < l.length) (hl : l.length ≤ 1000000) : CW p 125 (.ref 910) [.ref P, .bytes l] (Pen H P C n x cs)
    (fun v H' => ∃ (a d : Nat) (s : List UInt8) (n' x' : Int) (cs' : List Int), a < l.length ∧ s ∈ bentS ∧ d < 2 ∧ cs'.length ≤ 63 ∧ v = .bytes (l.take a ++ s ++ l.drop (a + d)) ∧ H' = Pen H P C n' x' cs') NXc := by
  have hl' : l.length ≤ 16777216 := by omega
  refine CW.dropped (CW_0 (params := ["pen", "data"]) ["pen", "data", "at", "sign"] ["_law_draw", "_law_pick", "len"] [some (.ref P), some (.bytes l), none, none] (fun us h => match us, h with | [u, v], _ => rfl) ?_)
  intro c F hT hL
  walk_at "W"
  refine K_AssignT2 F (by walk_at "gm") (by walk_at "gm") ?_
  walk_at "W"
  refine F.call (law_draw_spec (m := l.length) h0 hPC hc) (by decide) ?_ (fun _ _ _ h => h.elim)
  rintro v H' ⟨a, n0, x0, cs0, rfl, ha, hc0, rfl⟩
  walk_at "W"
  intro A hA
  have hAP : A ≠ P := fun q => by rw [q, Pen_p hPC] at hA; cases hA
  have hAC : A ≠ C := fun q => by rw [q, Pen_c] at hA; cases hA
  rw [Pen_ne hAP hAC] at hA
  rw [Pen_upd hAP hAC]
  walk_at "W"
  refine F.call (law_pick_spec hPC hc0 hAP hAC (upd_same ..) (by simp) (by simp)) (by decide) ?_ (fun _ _ _ h => h.elim)
  rintro v H' ⟨n1, x1, cs1, hv, hc1, rfl⟩
  obtain ⟨s, rfl, hs⟩ : ∃ s, v = .bytes s ∧ s ∈ bentS := by
    have : v ∈ bentS.map V.bytes := hv
    obtain ⟨s, h1, rfl⟩ := List.mem_map.mp this
    exact ⟨s, rfl, h1⟩
  have hsl : s.length ≤ 1 := by
    have : ∀ s ∈ bentS, s.length ≤ 1 := by decide
    exact this s hs
  walk_at "W"
  refine ⟨_, _, rfl, ?_⟩
  walk_at "W"
  rw [cut_to]
  refine O_addB (by simp; omega) ?_
  walk_at "W"
  refine F.call (law_draw_spec (m := 2) (by decide) hPC hc1) (by decide) ?_ (fun _ _ _ h => h.elim)
  rintro v H' ⟨d, n2, x2, cs2, rfl, hd, hc2, rfl⟩
  walk_at "W"
  rw [cut_from]
  refine O_addB (by simp; omega) ?_
  exact ⟨_, Pen_le (Le.upd _ hA), a, d, s, n2, x2, cs2, ha, hs, hd, hc2, rfl, rfl⟩
theorem law_is_refused_bad (hb : BadE w i1 j1) : CWd p 65 (.ref 917) [.obj 737 ["way", "one", "two"] [.str w, .int i1, .int j1]] H (.bool true) H := by
  refine CW.dropped (CW_0 (params := ["entry"]) ["entry"] ["write_classic", "CrossFault"] [some (.obj 737 ["way", "one", "two"] [.str w, .int i1, .int j1])] (fun us h => match us, h with | [u], _ => rfl) ?_)
  intro c F hT hL
  walk_at "W"
  refine K_TryRet F (x_Cross p) (by walk_at "gm") (c_CrossFault p) ?_
  walk_at "W"
  refine E_Dict1I fun D hD => ?_
  walk_at "W"
  refine ⟨upd_same .., ?_⟩
  rw [upd_upd]
  walk_at "W"
  refine EW.frz (E := D) (o := .fdint [(1, .obj 737 ["way", "one", "two"] [.str w, .int i1, .int j1])]) (.inl ⟨_, upd_same .., rfl⟩) ?_
  rw [upd_upd]
  refine E_Dict0S fun D2 hD2 => ?_
  have hDD : D ≠ D2 := ne_of_some (upd_same ..) hD2
  walk_at "W"
  refine F.call (write_classic_bad hb (by rw [upd_ne hDD]; exact upd_same ..)) (by decide) (fun _ _ h => h.elim) (fun C fs H' h => ?_)
  obtain ⟨h1, h2⟩ := h
  refine ⟨h1, H, ((Le.upd _ hD).trans (Le.upd _ hD2)).trans h2, rfl, rfl⟩
theorem law_is_refused_good : CWd p 65 (.ref 917) [entO (entV (true, 9999999999, 65535))] H (.bool false) H := by
  refine CW.dropped (CW_0 (params := ["entry"]) ["entry"] ["write_classic", "CrossFault"] [some (entO (entV (true, 9999999999, 65535)))] (fun us h => match us, h with | [u], _ => rfl) ?_)
  intro c F hT hL
  walk_at "W"
  refine K_TryRet F (x_Cross p) (by walk_at "gm") (c_CrossFault p) ?_
  walk_at "W"
  refine E_Dict1I fun D hD => ?_
  walk_at "W"
  refine ⟨upd_same .., ?_⟩
  rw [upd_upd]
  walk_at "W"
  refine EW.frz (E := D) (o := .fdint (dT (flatT [(1, [(true, 9999999999, 65535)])]))) (.inl ⟨_, upd_same .., rfl⟩) ?_
  rw [upd_upd]
  refine E_Dict0S fun D2 hD2 => ?_
  have hDD : D ≠ D2 := ne_of_some (upd_same ..) hD2
  walk_at "W"
  refine Os.frz (E := D2) (o := .fdstr (tE [])) (.inr (.inl ⟨_, upd_same .., rfl⟩)) ?_
  rw [upd_upd]
  refine F_callE F (write_classic_spec (r := [(1, [(true, 9999999999, 65535)])]) (es := []) ⟨by decide, by decide, (fun e he => by rw [List.mem_singleton.mp he]; exact ⟨by decide, by decide⟩), by decide, by decide, trivial⟩ (by decide) ⟨by simp, by simp, by simp, by simp⟩ (by rw [upd_ne hDD]; exact upd_same ..) (upd_same ..) (by decide +kernel) (by decide +kernel) (by decide +kernel)) (by decide) ?_
  walk_at "W"
  exact ⟨H, (Le.upd _ hD).trans (Le.upd _ hD2), rfl, rfl⟩
end
end BodyT9
end Group26
section BodyP6
theorem has_false_nodup {T : Tab} {n : Int} {e : Ent} (h : has T n = false) (nd : (keysT T).Nodup) : (keysT (T ++ [(n, e)])).Nodup := by
  rw [keysT_app]
  refine List.nodup_append.mpr ⟨nd, by simp [keysT], fun a ha b hb q => ?_⟩
  have hb' : b = n := by simpa [keysT] using hb
  subst hb' q
  rw [has_iff.mpr ha] at h; cases h
theorem subR_nodup {l : List UInt8} : ∀ {m : Nat} {n : Int} {T T' : Tab} {k k' : Nat}, subR l m n T k = .ok (T', k') → (keysT T).Nodup → (keysT T').Nodup
  | 0, n, T, T', k, k', h, nd => by cases h; exact nd
  | m + 1, n, T, T', k, k', h, nd => by
    rw [subR] at h
    split at h
    · cases h
    · rename_i hn
      split at h
      · cases h
      · split at h
        · cases h
        · rename_i e j he
          exact subR_nodup h (has_false_nodup (by simpa using hn) nd)
theorem secR_nodup {lim : Nat → Nat} {l : List UInt8} {T T' : Tab} {k k' : Nat} (h : secR lim l T k = .ok (T', k')) (nd : (keysT T).Nodup) : (keysT T').Nodup := by
  rw [secR] at h
  split at h
  · cases h
  · split at h
    · cases h
    · exact subR_nodup h nd
theorem tabR_nodup {lim : Nat → Nat} {l : List UInt8} : ∀ {m : Nat} {T T' : Tab} {k k' : Nat}, tabR lim l m T k = .ok (T', k') → (keysT T).Nodup → (keysT T').Nodup
  | 0, T, T', k, k', h, nd => by cases h
  | m + 1, T, T', k, k', h, nd => by
    rw [tabR] at h
    split at h
    · split at h
      · cases h
      · rename_i T1 k1 h1
        exact tabR_nodup h (secR_nodup h1 nd)
    · split at h
      · cases h; exact nd
      · cases h
theorem readR_nodup {lim : Nat → Nat} {l : List UInt8} {T : Tab} {k : Nat} (h : readR lim l = .ok (T, k)) : (keysT T).Nodup := by
  rw [readR] at h
  split at h
  · exact tabR_nodup h (by simp [keysT])
  · cases h
theorem tabR_trail {lim : Nat → Nat} {l : List UInt8} : ∀ {m : Nat} {T T' : Tab} {k k' : Nat}, tabR lim l m T k = .ok (T', k') → isAt l k' [116, 114, 97, 105, 108, 101, 114] = true
  | 0, T, T', k, k', h => by cases h
  | m + 1, T, T', k, k', h => by
    rw [tabR] at h
    split at h
    · split at h
      · cases h
      · exact tabR_trail h
    · split at h
      · rename_i hq; cases h; exact hq
      · cases h
theorem readR_trail {lim : Nat → Nat} {l : List UInt8} {T : Tab} {k : Nat} (h : readR lim l = .ok (T, k)) : isAt l k [116, 114, 97, 105, 108, 101, 114] = true := by
  rw [readR] at h
  split at h
  · exact tabR_trail h
  · cases h
theorem subR_cnt {l : List UInt8} : ∀ {m : Nat} {n : Int} {T T' : Tab} {k k' : Nat}, subR l m n T k = .ok (T', k') → k ≤ l.length → T'.length + k ≤ T.length + k'
  | 0, n, T, T', k, k', h, hk => by cases h; omega
  | m + 1, n, T, T', k, k', h, hk => by
    rw [subR] at h
    split at h
    · cases h
    · split at h
      · cases h
      · split at h
        · cases h
        · rename_i e j he
          have g := entR_gt he
          have := subR_cnt h g.2
          simp at this; omega
theorem secR_cnt {lim : Nat → Nat} {l : List UInt8} {T T' : Tab} {k k' : Nat} (h : secR lim l T k = .ok (T', k')) (hk : k ≤ l.length) : T'.length + k ≤ T.length + k' := by
  rw [secR] at h
  split at h
  · cases h
  · rename_i a k1 h1
    have g1 := cntR_ge h1 hk
    have w1 := ws_ge l k1
    have w2 := ws_le l k1 g1.2
    split at h
    · cases h
    · rename_i b k2 h2
      have g2 := cntR_ge h2 w2
      have w3 := ws_ge l k2
      have w4 := ws_le l k2 g2.2
      have := subR_cnt h w4; omega
theorem tabR_cnt {lim : Nat → Nat} {l : List UInt8} : ∀ {m : Nat} {T T' : Tab} {k k' : Nat}, tabR lim l m T k = .ok (T', k') → k ≤ l.length → T'.length + k ≤ T.length + k'
  | 0, T, T', k, k', h, hk => by cases h
  | m + 1, T, T', k, k', h, hk => by
    rw [tabR] at h
    split at h
    · split at h
      · cases h
      · rename_i T1 k1 h1
        have c1 := secR_cnt h1 hk
        have g1 := secR_ge h1 hk
        have w1 := ws_ge l k1
        have w2 := ws_le l k1 g1.2
        have := tabR_cnt h w2; omega
    · split at h
      · cases h; omega
      · cases h
theorem readR_cnt {lim : Nat → Nat} {l : List UInt8} {T : Tab} {k : Nat} (h : readR lim l = .ok (T, k)) : T.length ≤ l.length ∧ k + 7 ≤ l.length := by
  have ht := isAt_le (readR_trail h) (by simp)
  simp only [List.length_cons, List.length_nil] at ht
  rw [readR] at h
  split at h
  · rename_i hat
    have h4 := isAt_le hat (by simp)
    have := tabR_cnt h (ws_le l _ h4)
    simp at this; exact ⟨by omega, by omega⟩
  · cases h
end BodyP6
section Group27
local macro_rules | `(tactic| walk_at "hv") => `(tactic| first
  | ((show EW _ _ _ _ (eval (Expr.Call (Expr.Name (Str.ofString "Cursor") _) _ _ _) _) _ _); (refine C_fn (by assumption) (by walk_at "gm") (c_Cursor _) ?_))
  | ((show EW _ _ _ _ (eval (Expr.Call (Expr.Name (Str.ofString "told") _) _ _ _) _) _ _); (refine C_fn (by assumption) (by walk_at "gm") (c_told _) ?_))
  | ((show EW _ _ _ _ (eval (Expr.Call (Expr.Name (Str.ofString "read_classic") _) _ _ _) _) _ _); (refine C_fn (by assumption) (by walk_at "gm") (c_read_classic _) ?_))
  | ((show EW _ _ _ _ (eval (Expr.Call (Expr.Name (Str.ofString "len") _) _ _ _) _) _ _); (refine C_bt (by assumption) (by walk_at "gm") (c_len _) ?_))
  | ((show EW _ _ _ _ (eval (Expr.Call (Expr.Name (Str.ofString "dict") _) _ _ _) _) _ _); (refine C_bt (by assumption) (by walk_at "gm") (c_dict _) ?_))
  | ((show EW _ _ _ _ (eval (Expr.Name (Str.ofString "CrossFault") _) _) _ _); (refine B_b (by assumption) (by walk_at "gm") (c_CrossFault _) ?_)))
section BodyT10
theorem gn_201 (p : Pm) : findIn (Mine.hd.heap_39 p.w.params) (.ref 201) "__getattr__" = some none := by k_is
theorem at_201 (p : Pm) : findIn (Mine.hd.heap_39 p.w.params) (.ref 201) "at" = some none := by k_is
section
variable {p : Pm} {H : HM} {l : List UInt8} {n g : Nat}
def HeardPost (H : HM) (l : List UInt8) (n g : Nat) (v : V) (H' : HM) : Prop :=
  (∃ T k E, readR id l = .ok (T, k) ∧ H E = none ∧ v = .tup [.ref E, trV n g] ∧ H' = upd H E (.dint (tT T))) ∨ (∃ j, readR id l = .error j ∧ v = .tup [.none, .int (j : Int)] ∧ H' = H)
set_option maxHeartbeats 1000000 in
theorem law_heard_spec (hl : l.length ≤ 1000000) (hT : ∀ T k, readR id l = .ok (T, k) → TailOK p l (k + 7) (tx sizeN) (tx rootN) (TV.i n).v (TV.r g 0).v) : CW p 140 (.ref 903) [.bytes l] H (HeardPost H l n g) NXc := by
  have hl' : l.length ≤ 16777216 := by omega
  refine CW.dropped (CW_cell1 (n := 139) (y := "data") (z := "entries") ["data", "caught", "trailer", "fault"] ["read_classic", "Cursor", "CrossFault", "dict", "told"] [some (.bytes l), none, none, none] (fun _ => rfl) (fun _ => rfl) fun c ca F hTp hL Cc hca hne => ?_)
  walk_at "W"
  refine K_TryAs F (x_Cross p) (by walk_at "gm") (c_CrossFault p) ?_
  walk_at "W"
  refine Os_Cursor F hl' (by decide) fun a d ha hd => ?_
  obtain ⟨hdc, hHd⟩ := fresh_of hd
  walk_at "W"
  refine F.call (read_classic_spec (w1 := tx sizeN) (w2 := tx rootN) (v1 := (TV.i n).v) (v2 := (TV.r g 0).v) (by omega) hT) (by decide) ?_ ?_
  case refine_2 =>
    rintro Ce fs H' ⟨k, herr, rfl, ⟨w, rfl⟩, hle⟩
    have hle := hle hd
    refine ⟨rfl, _, _, rfl, Nv.tl (Nv.tl (Nv.tl Nv.hd)), Sv.tl Sv.hd, ?_⟩
    walk_at "W"
    refine O_isnot_none (by intro x h; cases h) ?_
    walk_at "W"
    refine if_nf ?_
    walk_at "W"
    refine O_getExc (x_Cross p) (gn_201 p) (at_201 p) (v := .int (k : Int)) rfl (by intro x h; cases h) ?_
    walk_at "W"
    exact ⟨H, (Le.upd _ hca).trans hle, .inr ⟨k, herr, rfl, rfl⟩⟩
  rintro v H' ⟨T, k, E, D, e, hok, hE, hEd, hD, hDd, hDE, rfl, rfl⟩
  have hdca : d ≠ ca := hdc
  obtain ⟨hEca, hHE⟩ := fresh_of hE
  obtain ⟨hDca, hHD⟩ := fresh_of hD
  have hnd := readR_nodup hok
  have hcnt := (readR_cnt hok).1
  generalize hH2 : Cu (upd (upd (upd H ca (.cell none)) E (.dint (dT T))) D (.fdstr [(tx sizeN, (TV.i n).v), (tx rootN, (TV.r g 0).v)])) d l e = H2
  have oE : H2 E = some (.dint (dT T)) := by rw [← hH2]; unfold Cu; rw [upd_ne hEd, upd_ne hDE.symm]; exact upd_same ..
  have oca : H2 ca = some (.cell none) := by rw [← hH2]; unfold Cu; rw [upd_ne hdca.symm, upd_ne hDca.symm, upd_ne hEca.symm]; exact upd_same ..
  have oD : H2 D = some (.fdstr (tE (trE n g))) := by rw [← hH2]; unfold Cu; rw [upd_ne hDd]; exact upd_same ..
  have hle : ∀ o o', Le H (upd (upd H2 ca o) E o') := fun o o' b ob hb => by
    have b1 : b ≠ ca := ne_of_some hb hca
    have b2 : b ≠ E := ne_of_some hb hHE
    have b3 : b ≠ D := ne_of_some hb hHD
    have b4 : b ≠ d := ne_of_some hb hHd
    rw [upd_ne b2, upd_ne b1, ← hH2]; unfold Cu
    rw [upd_ne b4, upd_ne b3, upd_ne b2, upd_ne b1]; exact hb
  walk_at "W"
  refine Uc_ F Cc oca ?_
  walk_at "W"
  refine O_isnot_none (by intro x h; cases h) ?_
  walk_at "W"
  refine if_nt ?_
  refine SW.frz (E := E) (o := .fdint (dT T)) (.inl ⟨_, by rw [upd_ne hEca]; exact oE, rfl⟩) ?_
  have oE' : (upd (upd H2 ca (.cell (some (.ref E)))) E (.fdint (dT T))) E = some (.fdint (dT T)) := upd_same ..
  have oca' : (upd (upd H2 ca (.cell (some (.ref E)))) E (.fdint (dT T))) ca = some (.cell (some (.ref E))) := by rw [upd_ne hEca.symm]; exact upd_same ..
  have oD' : (upd (upd H2 ca (.cell (some (.ref E)))) E (.fdint (dT T))) D = some (.fdstr (tE (trE n g))) := by rw [upd_ne hDE, upd_ne hDca]; exact oD
  have hle' := hle (.cell (some (.ref E))) (.fdint (dT T))
  generalize upd (upd H2 ca (.cell (some (.ref E)))) E (.fdint (dT T)) = H3 at oE' oca' oD' hle' ⊢
  walk_at "W"
  refine E_ListComp (cl := [("entries", ca)]) (closure_of (by simp [cellsOf, Cc.cell])) ?_ F.L
  refine Cl_ F Cc oca' ?_
  refine I_dictI oE' ⟨fun i acc H₄ => i ≤ T.length ∧ acc = ((tT T).take i).map (fun x => .tup [.int x.1, x.2]) ∧ H₄ = H3, ⟨by simp [dT]; omega, ⟨Nat.zero_le _, rfl, rfl⟩, fun i acc H₄ b ⟨_, _, h⟩ hb => by rw [h]; exact hb, ?_⟩, ?_⟩
  · rintro C i y acc H₄ hC hy ⟨hi, rfl, rfl⟩ hHC
    rw [dT, List.map_map, List.getElem?_map] at hy
    obtain ⟨⟨k1, e1⟩, hk1, rfl⟩ := Option.map_eq_some_iff.mp hy
    have hm := List.mem_of_getElem? hk1
    have hv := gva_dT_mem hnd hm
    refine U1.inComp F hC ["number"] [] [none] fun F' ce => ?_
    have C2 := ce _ _ Cc rfl rfl
    walk_at "W"
    show EW _ _ _ _ _ _ _
    walk_at "W"
    refine Cl_ F' C2 oca' ?_
    walk_at "W"
    refine O_item_fdint oE' hv ?_
    refine G_instF (b_told p) rfl ⟨.ref (kp_734 p), ?_⟩
    walk_at "W"
    refine F_callE F' (Entry_told (by intro x h; cases h) (by intro x h; cases h) (by intro x h; cases h)) (by decide) ?_
    walk_at "W"
    refine ⟨(List.getElem?_eq_some_iff.mp hk1).1, ?_, rfl⟩
    rw [List.take_add_one, show (tT T)[i]? = some (k1, tupE e1) by rw [tT, List.getElem?_map, hk1]; rfl]
    simp [tupE]
  · rintro acc H₄ D2 ⟨_, rfl, rfl⟩ hD2 _
    rw [List.take_of_length_le (by simp [tT, dT])]
    walk_at "W"
    refine Os_dict_pairs (ps := tT T) (upd_same ..) (by simp [tT]; omega) (by rw [tT, List.map_map]; exact hnd) fun D3 hD3 => ?_
    obtain ⟨hD32, hHD3⟩ := fresh_of hD3
    have q1 : D ≠ D2 := ne_of_some oD' hD2
    have q2 : D ≠ D3 := ne_of_some oD' hHD3
    walk_at "W"
    refine F_callE F (told_dict (n := n) (g := g) (by rw [upd_ne q2, upd_ne q1]; exact oD')) (by decide) ?_
    walk_at "W"
    have hHD3' : H D3 = none := by
      cases q : H D3 with
      | none => rfl
      | some o => rw [hle' _ _ q] at hHD3; cases hHD3
    refine ⟨upd H D3 (.dint (tT T)), LeUpd2 (hle'.trans (Le.upd _ hD2)), .inl ⟨T, k, D3, hok, hHD3', rfl, rfl⟩⟩
end
end BodyT10
end Group27
section BodyP7
theorem ws_non {x : UInt8} {b : List UInt8} (h : x.toNat ∉ [0, 9, 10, 12, 13, 32, 37]) : ws (x :: b) 0 = 0 := by
  have hb : byt (x :: b) 0 = (x.toNat : Int) := by simp [byt]
  simp only [List.mem_cons, List.not_mem_nil, or_false, not_or] at h
  rw [ws, if_pos (by simp), hb, if_neg (by omega), if_neg (by simp only [List.mem_cons, List.not_mem_nil, or_false]; omega)]
theorem ws_at {A b : List UInt8} {x : UInt8} (h : x.toNat ∉ [0, 9, 10, 12, 13, 32, 37]) : ws (A ++ x :: b) A.length = A.length := by
  have := ws_sh A (x :: b) 0
  rw [ws_non h] at this; exact this
theorem ws_at1 {A b : List UInt8} {y x : UInt8} (hy : y = 32 ∨ y = 10) (h : x.toNat ∉ [0, 9, 10, 12, 13, 32, 37]) : ws (A ++ y :: x :: b) A.length = A.length + 1 := by
  have := ws_sh A (y :: x :: b) 0
  rw [ws_one (by rcases hy with h | h <;> simp [h]), ws_non h] at this; exact this
theorem rg_word {x : UInt8} {b : List UInt8} (hx : isReg (x.toNat : Int) = false) : ∀ {w : List UInt8}, (∀ y ∈ w, isReg (y.toNat : Int) = true) → rg (w ++ x :: b) 0 = w.length
  | [], _ => by
    rw [List.nil_append, rg, if_pos (by simp), if_neg (by simp [byt, hx])]; rfl
  | y :: w, h => by
    have ih := rg_word (b := b) hx (w := w) fun z hz => h z (.tail _ hz)
    have sh := rg_sh [y] (w ++ x :: b) 0
    rw [ih] at sh
    rw [rg, if_pos (by simp), if_pos (by simpa [byt] using h y (.head _))]
    have : rg (y :: w ++ x :: b) (0 + 1) = 1 + w.length := sh
    rw [this, List.length_cons]; omega
theorem rg_at {A w b : List UInt8} {x : UInt8} (hx : isReg (x.toNat : Int) = false) (hw : ∀ y ∈ w, isReg (y.toNat : Int) = true) : rg (A ++ (w ++ x :: b)) A.length = A.length + w.length := by
  have := rg_sh A (w ++ x :: b) 0
  rw [rg_word hx hw] at this; exact this
theorem runB_at {A w b : List UInt8} {x : UInt8} (hx : isReg (x.toNat : Int) = false) (hw : ∀ y ∈ w, isReg (y.toNat : Int) = true) : runB (A ++ (w ++ x :: b)) A.length = w := by
  rw [runB, rg_at hx hw, List.drop_left, Nat.add_sub_cancel_left, List.take_left]
section
variable {l A w b : List UInt8} {x y : UInt8} {k : Nat}
theorem W1 (e : l = A ++ y :: x :: b) (hk : k = A.length) (hy : y = 32 ∨ y = 10) (h : x.toNat ∉ [0, 9, 10, 12, 13, 32, 37]) : ws l k = k + 1 := by subst e hk; exact ws_at1 hy h
theorem W0 (e : l = A ++ x :: b) (hk : k = A.length) (h : x.toNat ∉ [0, 9, 10, 12, 13, 32, 37]) : ws l k = k := by subst e hk; exact ws_at h
theorem RG (e : l = A ++ (w ++ x :: b)) (hk : k = A.length) (hx : isReg (x.toNat : Int) = false) (hw : ∀ y ∈ w, isReg (y.toNat : Int) = true) : rg l k = k + w.length := by subst e hk; exact rg_at hx hw
theorem RB (e : l = A ++ (w ++ x :: b)) (hk : k = A.length) (hx : isReg (x.toNat : Int) = false) (hw : ∀ y ∈ w, isReg (y.toNat : Int) = true) : runB l k = w := by subst e hk; exact runB_at hx hw
theorem PK (e : l = A ++ x :: b) (hk : k = A.length) : pk l k = (x.toNat : Int) := by subst e hk; rw [pk_sh0, pk_cons]
theorem IAno (e : l = A ++ x :: b) (hk : k = A.length) (hx : x ≠ 60) : isAt l k [60, 60] = false := by subst e hk; simp [isAt, hx]
theorem IA (e : l = A ++ (w ++ b)) (hk : k = A.length) : isAt l k w = true := by subst e hk; simp [isAt]
end
theorem figs_reg {w : List UInt8} (h : Figs w) : ∀ y ∈ w, isReg (y.toNat : Int) = true := fun y hy => by
  have := h y hy
  simp only [isReg, decide_eq_true_eq, List.mem_cons, List.not_mem_nil, or_false]; omega
theorem figs_split {w : List UInt8} (h : Figs w) (h0 : 0 < w.length) : ∃ x w', w = x :: w' ∧ 48 ≤ x.toNat ∧ x.toNat ≤ 57 := by
  cases w with
  | nil => simp at h0
  | cons x w' => exact ⟨x, w', rfl, h x (.head _)⟩
def sizeB : List UInt8 := [83, 105, 122, 101]
def rootB : List UInt8 := [82, 111, 111, 116]
def tailB (n g : Nat) : List UInt8 := 10 :: 60 :: 60 :: 32 :: 47 :: (sizeB ++ 32 :: (digB n ++ 32 :: 47 :: (rootB ++ 32 :: (digB g ++ 32 :: ([48] ++ 32 :: ([82] ++ 32 :: 62 :: 62 :: [10]))))))
theorem tail_ok {p : Pm} {A : List UInt8} {n g : Nat} (hn : n < 10 ^ 20) (hg : g < 10 ^ 20) (hl : (A ++ tailB n g).length ≤ 16777216) : TailOK p (A ++ tailB n g) A.length (tx sizeN) (tx rootN) (TV.i n).v (TV.r g 0).v := by
  have hne : tx sizeN ≠ tx rootN := fun q => absurd (tx_inj q) (by decide)
  have fn := digB_figs n
  have fg' := digB_figs g
  have ln := digB_len_pos n
  have lg := digB_len_pos g
  have hn40 : (digB n).length ≤ 40 := by have := digN_len (k := 20) (by decide) hn; simp [digB]; omega
  have hg40 : (digB g).length ≤ 40 := by have := digN_len (k := 20) (by decide) hg; simp [digB]; omega
  obtain ⟨xn, wn, en, bn1, bn2⟩ := figs_split fn ln
  obtain ⟨xg, wg, eg, bg1, bg2⟩ := figs_split fg' lg
  have rs : ∀ y ∈ sizeB, isReg (y.toNat : Int) = true := by decide
  have rr : ∀ y ∈ rootB, isReg (y.toNat : Int) = true := by decide
  have r32 : isReg ((32 : UInt8).toNat : Int) = false := by decide
  have r47 : isReg ((47 : UInt8).toNat : Int) = false := by decide
  generalize hL : A ++ tailB n g = l at *
  have e0 : l = A ++ 10 :: 60 :: (60 :: 32 :: 47 :: (sizeB ++ 32 :: (digB n ++ 32 :: 47 :: (rootB ++ 32 :: (digB g ++ 32 :: ([48] ++ 32 :: ([82] ++ 32 :: 62 :: 62 :: [10]))))))) := by rw [← hL, tailB]
  have e1 : l = (A ++ [10]) ++ 60 :: (60 :: 32 :: 47 :: (sizeB ++ 32 :: (digB n ++ 32 :: 47 :: (rootB ++ 32 :: (digB g ++ 32 :: ([48] ++ 32 :: ([82] ++ 32 :: 62 :: 62 :: [10]))))))) := by rw [e0]; simp
  have e2 : l = (A ++ [10, 60, 60]) ++ 32 :: 47 :: (sizeB ++ 32 :: (digB n ++ 32 :: 47 :: (rootB ++ 32 :: (digB g ++ 32 :: ([48] ++ 32 :: ([82] ++ 32 :: 62 :: 62 :: [10])))))) := by rw [e0]; simp
  have e2b : l = (A ++ [10, 60, 60, 32]) ++ 47 :: (sizeB ++ 32 :: (digB n ++ 32 :: 47 :: (rootB ++ 32 :: (digB g ++ 32 :: ([48] ++ 32 :: ([82] ++ 32 :: 62 :: 62 :: [10])))))) := by rw [e0]; simp
  have e3 : l = (A ++ [10, 60, 60, 32, 47]) ++ (sizeB ++ 32 :: (digB n ++ 32 :: 47 :: (rootB ++ 32 :: (digB g ++ 32 :: ([48] ++ 32 :: ([82] ++ 32 :: 62 :: 62 :: [10])))))) := by rw [e0]; simp
  generalize hA4 : A ++ [10, 60, 60, 32, 47] ++ sizeB = A4
  have e4 : l = A4 ++ 32 :: (digB n ++ 32 :: 47 :: (rootB ++ 32 :: (digB g ++ 32 :: ([48] ++ 32 :: ([82] ++ 32 :: 62 :: 62 :: [10]))))) := by rw [e3, ← hA4]; simp
  have e5 : l = (A4 ++ [32]) ++ (digB n ++ 32 :: 47 :: (rootB ++ 32 :: (digB g ++ 32 :: ([48] ++ 32 :: ([82] ++ 32 :: 62 :: 62 :: [10]))))) := by rw [e4]; simp
  generalize hA6 : A4 ++ [32] ++ digB n = A6
  have e6 : l = A6 ++ 32 :: 47 :: (rootB ++ 32 :: (digB g ++ 32 :: ([48] ++ 32 :: ([82] ++ 32 :: 62 :: 62 :: [10])))) := by rw [e5, ← hA6]; simp
  have e7a : l = (A6 ++ [32]) ++ ([] ++ 47 :: (rootB ++ 32 :: (digB g ++ 32 :: ([48] ++ 32 :: ([82] ++ 32 :: 62 :: 62 :: [10]))))) := by rw [e6]; simp
  have e7 : l = (A6 ++ [32, 47]) ++ (rootB ++ 32 :: (digB g ++ 32 :: ([48] ++ 32 :: ([82] ++ 32 :: 62 :: 62 :: [10])))) := by rw [e6]; simp
  generalize hA8 : A6 ++ [32, 47] ++ rootB = A8
  have e8 : l = A8 ++ 32 :: (digB g ++ 32 :: ([48] ++ 32 :: ([82] ++ 32 :: 62 :: 62 :: [10]))) := by rw [e7, ← hA8]; simp
  have e9 : l = (A8 ++ [32]) ++ (digB g ++ 32 :: ([48] ++ 32 :: ([82] ++ 32 :: 62 :: 62 :: [10]))) := by rw [e8]; simp
  generalize hA10 : A8 ++ [32] ++ digB g = A10
  have e10 : l = A10 ++ 32 :: 48 :: (32 :: ([82] ++ 32 :: 62 :: 62 :: [10])) := by rw [e9, ← hA10]; simp
  have e11 : l = (A10 ++ [32]) ++ ([48] ++ 32 :: ([82] ++ 32 :: 62 :: 62 :: [10])) := by rw [e10]; simp
  have e12 : l = (A10 ++ [32, 48]) ++ 32 :: 82 :: (32 :: 62 :: 62 :: [10]) := by rw [e10]; simp
  have e13 : l = (A10 ++ [32, 48, 32]) ++ ([82] ++ 32 :: (62 :: 62 :: [10])) := by rw [e10]; simp
  have e14 : l = (A10 ++ [32, 48, 32, 82]) ++ 32 :: 62 :: (62 :: [10]) := by rw [e10]; simp
  have e15 : l = (A10 ++ [32, 48, 32, 82, 32]) ++ 62 :: (62 :: [10]) := by rw [e10]; simp
  have hlen : A10.length + 8 = l.length := by rw [e10]; simp
  have l10 : A10.length = A8.length + 1 + (digB g).length := by rw [← hA10]; simp; omega
  have l8 : A8.length = A6.length + 6 := by rw [← hA8]; simp [rootB]
  have l6 : A6.length = A4.length + 1 + (digB n).length := by rw [← hA6]; simp; omega
  have l4 : A4.length = A.length + 9 := by rw [← hA4]; simp [sizeB]
  have w0 : ws l A.length = A.length + 1 := by rw [e0]; exact ws_at1 (.inr rfl) (by decide)
  have w1 : ws l (A.length + 1) = A.length + 1 := W0 e1 (by simp) (by decide)
  have w2 : ws l (A.length + 3) = A.length + 4 := W1 e2 (by simp) (.inl rfl) (by decide)
  have w4 : ws l A4.length = A4.length + 1 := W1 (x := xn) (b := wn ++ 32 :: 47 :: (rootB ++ 32 :: (digB g ++ 32 :: ([48] ++ 32 :: ([82] ++ 32 :: 62 :: 62 :: [10]))))) (by rw [e4, en]; simp) rfl (.inl rfl) (by simp only [List.mem_cons, List.not_mem_nil, or_false]; omega)
  have w6 : ws l A6.length = A6.length + 1 := W1 e6 rfl (.inl rfl) (by decide)
  have w8 : ws l A8.length = A8.length + 1 := W1 (x := xg) (b := wg ++ 32 :: ([48] ++ 32 :: ([82] ++ 32 :: 62 :: 62 :: [10]))) (by rw [e8, eg]; simp) rfl (.inl rfl) (by simp only [List.mem_cons, List.not_mem_nil, or_false]; omega)
  have w10 : ws l A10.length = A10.length + 1 := W1 e10 rfl (.inl rfl) (by decide)
  have w12 : ws l (A10.length + 2) = A10.length + 3 := W1 e12 (by simp) (.inl rfl) (by decide)
  have w14 : ws l (A10.length + 4) = A10.length + 5 := W1 e14 (by simp) (.inl rfl) (by decide)
  have b3 : runB l (A.length + 5) = sizeB := RB e3 (by simp) r32 rs
  have g3 : rg l (A.length + 5) = A4.length := by rw [RG e3 (by simp) r32 rs, l4]; rfl
  have b5 : runB l (A4.length + 1) = digB n := RB e5 (by simp) r32 (figs_reg fn)
  have g5 : rg l (A4.length + 1) = A6.length := by rw [RG e5 (by simp) r32 (figs_reg fn), l6]
  have b7a : runB l (A6.length + 1) = [] := RB e7a (by simp) r47 (by simp)
  have b7 : runB l (A6.length + 2) = rootB := RB e7 (by simp) r32 rr
  have g7 : rg l (A6.length + 2) = A8.length := by rw [RG e7 (by simp) r32 rr, l8]; rfl
  have b9 : runB l (A8.length + 1) = digB g := RB e9 (by simp) r32 (figs_reg fg')
  have g9 : rg l (A8.length + 1) = A10.length := by rw [RG e9 (by simp) r32 (figs_reg fg'), l10]
  have b11 : runB l (A10.length + 1) = [48] := RB e11 (by simp) r32 (by decide)
  have g11 : rg l (A10.length + 1) = A10.length + 2 := by rw [RG e11 (by simp) r32 (by decide)]; rfl
  have b13 : runB l (A10.length + 3) = [82] := RB e13 (by simp) r32 (by decide)
  have g13 : rg l (A10.length + 3) = A10.length + 4 := by rw [RG e13 (by simp) r32 (by decide)]; rfl
  have hs1 : (sizeB.map (·.toNat)) = sizeN := by decide
  have hr1 : (rootB.map (·.toNat)) = rootN := by decide
  have n0 : NextS p l (ws l A.length) (.tup [.str "sign", .bytes [60, 60], .int ((A.length + 1 : Nat) : Int)]) (A.length + 3) := fun H a d => by
    have := next_open (p := p) (H := H) (a := a) (d := d) (l := l) (k := A.length + 1) hl (by omega) (by rw [w1]; exact IA (w := [60, 60]) (by rw [e1]; rfl) (by simp)) (by rw [w1]; exact PK e1 (by simp))
    rw [w1] at this; rw [w0]; exact this
  have n1 : NextS p l (A.length + 3) (.tup [.str "name", .str (tx sizeN), .int ((A.length + 4 : Nat) : Int)]) A4.length := fun H a d => by
    have := next_name (p := p) (H := H) (a := a) (d := d) (l := l) (k := A.length + 3) hl (by omega) (by rw [w2]; exact PK e2b (by simp)) (by rw [w2, b3]; decide) (by rw [w2, b3]; decide)
    rw [w2, b3, g3, hs1] at this; exact this
  have n2 : NextS p l A4.length (.tup [.str "int", .int (n : Int), .int ((A4.length + 1 : Nat) : Int)]) A6.length := fun H a d => by
    have hpk : pk l (A4.length + 1) = (xn.toNat : Int) := PK (A := A4 ++ [32]) (b := wn ++ 32 :: 47 :: (rootB ++ 32 :: (digB g ++ 32 :: ([48] ++ 32 :: ([82] ++ 32 :: 62 :: 62 :: [10]))))) (by rw [e5, en]; simp) (by simp)
    have := next_int (p := p) (H := H) (a := a) (d := d) (l := l) (k := A4.length) hl (by omega) (by rw [w4, hpk]; omega) (by rw [w4, b5]; exact fn) (by rw [w4, b5]; exact ln) (by rw [w4, b5]; exact hn40)
    rw [w4, b5, g5, dv_digB] at this; exact this
  have n3 : NextS p l A6.length (.tup [.str "name", .str (tx rootN), .int ((A6.length + 1 : Nat) : Int)]) A8.length := fun H a d => by
    have := next_name (p := p) (H := H) (a := a) (d := d) (l := l) (k := A6.length) hl (by omega) (by rw [w6]; exact PK (A := A6 ++ [32]) (x := 47) (by rw [e7a]; rfl) (by simp)) (by rw [w6, b7]; decide) (by rw [w6, b7]; decide)
    rw [w6, b7, g7, hr1] at this; exact this
  have n4 : NextS p l A8.length (.tup [.str "int", .int (g : Int), .int ((A8.length + 1 : Nat) : Int)]) A10.length := fun H a d => by
    have hpk : pk l (A8.length + 1) = (xg.toNat : Int) := PK (A := A8 ++ [32]) (b := wg ++ 32 :: ([48] ++ 32 :: ([82] ++ 32 :: 62 :: 62 :: [10]))) (by rw [e9, eg]; simp) (by simp)
    have := next_int (p := p) (H := H) (a := a) (d := d) (l := l) (k := A8.length) hl (by omega) (by rw [w8, hpk]; omega) (by rw [w8, b9]; exact fg') (by rw [w8, b9]; exact lg) (by rw [w8, b9]; exact hg40)
    rw [w8, b9, g9, dv_digB] at this; exact this
  have n5 : NextS p l (A10.length + 4) (.tup [.str "sign", .bytes [62, 62], .int ((A10.length + 5 : Nat) : Int)]) (A10.length + 7) := fun H a d => by
    have := next_close (p := p) (H := H) (a := a) (d := d) (l := l) (k := A10.length + 4) hl (by omega) (by rw [w14]; exact IA (A := A10 ++ [32, 48, 32, 82, 32]) (w := [62, 62]) (b := [10]) (by rw [e15]; rfl) (by simp))
      (by rw [w14]; exact IAno e15 (by simp) (by decide)) (by rw [w14]; exact PK e15 (by simp))
    rw [w14] at this; exact this
  have p2 : PlainS p l (n : Int) A6.length (.int (n : Int)) A6.length := fun H a d => take_ref_no hl (by omega) (by rw [w6]; exact b7a)
  have p4 : PlainS p l (g : Int) A10.length (.obj 480 ["number", "generation"] [.int (g : Int), .int 0]) (A10.length + 4) := fun H a d => by
    have := take_ref_yes (p := p) (H := H) (a := a) (d := d) (l := l) (k := A10.length) (i := (g : Int)) hl (by omega) (by rw [w10]; exact b11) (by rw [w10, g11, w12]; exact b13)
    rw [w10, g11, w12, g13] at this; exact this
  refine ⟨hne, rfl, rfl, TV.con _, TV.con _, _, _, _, _, 4, A10.length + 7, n0, n1, ?_⟩
  refine .name (by decide) n2 (.int (by decide) (by omega) p2 n3 (.name ?_ n4 (.int ?_ (by omega) p4 n5 ?_)))
  · show ((((2 : Nat) : Int)).fmod 2 == 0) = true
    decide
  · show ((((3 : Nat) : Int)).fmod 2 == 0) = false
    decide
  · exact .close
end BodyP7
section BodyP8
def restB (n g : Nat) : List UInt8 := trw ++ tailB n g
theorem wc_rest (r : List Sec) (n g : Nat) : wcB r (trE n g) = xrw ++ [10] ++ secsB (fun _ => [32, 10]) 0 r ++ restB n g := by
  have hs : sizeN.map Nat.toUInt8 = sizeB := by decide
  have hr : rootN.map Nat.toUInt8 = rootB := by decide
  have h0 : digB 0 = [48] := by decide
  unfold wcB restB tailB dictB dictParts dictMid trE joinB keyB
  simp [TV.parts, hs, hr, h0]
theorem rest_tail {p : Pm} {n g : Nat} {d : List UInt8} (hn : n < 10 ^ 20) (hg : g < 10 ^ 20) (hd : ∀ b ∈ d, b ≠ 116) (hl : (d ++ restB n g).length ≤ 16777216) :
    ∀ T k, readR id (d ++ restB n g) = .ok (T, k) → TailOK p (d ++ restB n g) (k + 7) (tx sizeN) (tx rootN) (TV.i n).v (TV.r g 0).v := fun T k h => by
  have hat := readR_trail h
  have hk := (readR_cnt h).2
  have hk' : k = d.length := by
    rcases Nat.lt_trichotomy k d.length with q | q | q
    · exfalso
      have h1 : (d ++ restB n g)[k]? = some 116 := by
        simp only [isAt, beq_iff_eq, List.length_cons, List.length_nil] at hat
        have := congrArg (·[0]?) hat
        simpa [List.getElem?_take, List.getElem?_drop] using this
      rw [List.getElem?_append_left q] at h1
      exact hd 116 (List.mem_of_getElem? h1) rfl
    · exact q
    · exfalso
      have h1 : (d ++ restB n g)[k + 4]? = some 108 := by
        simp only [isAt, beq_iff_eq, List.length_cons, List.length_nil] at hat
        have := congrArg (·[4]?) hat
        simpa [List.getElem?_take, List.getElem?_drop] using this
      have hsp : d ++ restB n g = (d ++ [116, 114, 97, 105, 108]) ++ ([101, 114] ++ tailB n g) := by simp [restB, trw]
      rw [hsp, List.getElem?_append_right (by simp; omega)] at h1
      have hm := List.mem_of_getElem? h1
      have no : ∀ b ∈ [101, 114] ++ tailB n g, b ≠ 108 := by
        intro b hb q
        subst q
        have f1 := digB_figs n
        have f2 := digB_figs g
        have n1 : (108 : UInt8) ∉ digB n := fun q => by have := f1 _ q; revert this; decide
        have n2 : (108 : UInt8) ∉ digB g := fun q => by have := f2 _ q; revert this; decide
        simp [tailB, sizeB, rootB, n1, n2] at hb
      exact no 108 hm rfl
  subst hk'
  have hsp : d ++ restB n g = (d ++ trw) ++ tailB n g := by simp [restB]
  have hlen : d.length + 7 = (d ++ trw).length := by simp [trw]
  rw [hsp] at hl ⊢
  rw [hlen]
  exact tail_ok hn hg hl
theorem figs_no116 {l : List UInt8} (h : Figs l) : ∀ b ∈ l, b ≠ 116 := fun b hb q => by have := h b hb; subst q; revert this; decide
theorem entB_no (e : EntN) : ∀ b ∈ entB e, b ≠ 116 := fun b hb => by
  simp only [entB, List.mem_append] at hb
  rcases hb with ((hb | hb) | hb) | hb
  · exact figs_no116 (padB_figs _ _) b hb
  · rw [List.mem_singleton.mp hb]; decide
  · exact figs_no116 (padB_figs _ _) b hb
  · simp only [List.mem_cons, List.not_mem_nil, or_false] at hb
    rcases hb with rfl | rfl
    · decide
    · split <;> decide
theorem linesB_no {ends : Nat → List UInt8} (hE : ∀ t, ∀ b ∈ ends t, b ≠ 116) : ∀ (es : List EntN) (t : Nat), ∀ b ∈ linesB ends t es, b ≠ 116
  | [], t, b, hb => by cases hb
  | e :: es, t, b, hb => by
    rw [linesB] at hb
    rcases List.mem_append.mp hb with hb | hb
    · rcases List.mem_append.mp hb with hb | hb
      · exact entB_no e b hb
      · exact hE t b hb
    · exact linesB_no hE es (t + 1) b hb
theorem secsB_no {ends : Nat → List UInt8} (hE : ∀ t, ∀ b ∈ ends t, b ≠ 116) : ∀ (r : List Sec) (t : Nat), ∀ b ∈ secsB ends t r, b ≠ 116
  | [], t, b, hb => by cases hb
  | s :: r, t, b, hb => by
    rw [secsB] at hb
    rcases List.mem_append.mp hb with hb | hb
    · simp only [secB, List.mem_append] at hb
      rcases hb with (((hb | hb) | hb) | hb) | hb
      · exact figs_no116 (digB_figs _) b hb
      · rw [List.mem_singleton.mp hb]; decide
      · exact figs_no116 (digB_figs _) b hb
      · rw [List.mem_singleton.mp hb]; decide
      · exact linesB_no hE _ _ b hb
    · exact secsB_no hE r _ b hb
theorem IsEnd.no {E : List UInt8} (h : IsEnd E) : ∀ b ∈ E, b ≠ 116 := by
  rcases h with rfl | rfl | rfl | rfl | rfl <;> decide
theorem IsEnd.len {E : List UInt8} (h : IsEnd E) : E.length ≤ 2 := by
  rcases h with rfl | rfl | rfl | rfl | rfl <;> decide
theorem linesB_len {ends : Nat → List UInt8} (hE : ∀ t, (ends t).length ≤ 2) : ∀ {es : List EntN} {t : Nat}, (∀ e ∈ es, EntOk e) → (linesB ends t es).length ≤ 20 * es.length
  | [], t, _ => by simp [linesB]
  | e :: es, t, h => by
    have := linesB_len hE (es := es) (t := t + 1) fun x hx => h x (.tail _ hx)
    have e1 := entB_len (h e (.head _))
    have e2 := hE t
    simp only [linesB, List.length_append, List.length_cons]; omega
theorem secsB_len {ends : Nat → List UInt8} (hE : ∀ t, (ends t).length ≤ 2) : ∀ {r : List Sec} {lo t : Nat}, SecsOk lo r → (∀ s ∈ r, s.2.length ≤ 3) → (secsB ends t r).length ≤ 110 * r.length
  | [], lo, t, _, _ => by simp [secsB]
  | s :: r, lo, t, h, h3 => by
    obtain ⟨a1, a2, a3, a4, a5, a6⟩ := h
    have ih := secsB_len hE (t := t + s.2.length) a6 fun x hx => h3 x (.tail _ hx)
    have l1 := linesB_len hE (t := t) a3
    have l2 := h3 s (.head _)
    have d1 : (digB s.1).length ≤ 20 := by have := digN_len (k := 20) (by decide) a4; simpa [digB] using this
    have d2 : (digB s.2.length).length ≤ 20 := by have := digN_len (n := s.2.length) (k := 20) (by decide) (by omega); simpa [digB] using this
    simp only [secsB, secB, List.length_append, List.length_cons, List.length_nil]; omega
theorem rest_len {n g : Nat} (hn : n < 10 ^ 20) (hg : g < 10 ^ 20) : (restB n g).length ≤ 100 := by
  have d1 : (digB n).length ≤ 20 := by have := digN_len (k := 20) (by decide) hn; simpa [digB] using this
  have d2 : (digB g).length ≤ 20 := by have := digN_len (k := 20) (by decide) hg; simpa [digB] using this
  simp [restB, tailB, trw, sizeB, rootB]; omega
theorem cm_skip {x : UInt8} {b : List UInt8} (h : x.toNat ≠ 10 ∧ x.toNat ≠ 13) : cm (x :: b) 0 = 1 + cm b 0 := by
  have := cm_sh [x] b 0
  rw [cm, if_pos (by simp), if_neg (by simp [byt]; omega)]
  exact this
theorem cm_stop {b : List UInt8} : cm (13 :: b) 0 = 0 := by rw [cm, if_pos (by simp), if_pos (by simp [byt])]
theorem ws_com {b : List UInt8} : ws (37 :: b) 0 = 1 + ws b (cm b 0) := by
  have h1 : cm (37 :: b) (0 + 1) = 1 + cm b 0 := cm_sh [37] b 0
  have h2 : ws (37 :: b) (1 + cm b 0) = 1 + ws b (cm b 0) := ws_sh [37] b (cm b 0)
  rw [ws, if_pos (by simp), if_pos (by simp [byt]), h1, h2]
def preS : List (List UInt8) := [[], [32, 37, 97, 32, 120, 114, 101, 102, 13], [10, 9]]
theorem pre_ws {pre : List UInt8} (h : pre ∈ preS) : ∀ c, ws (pre ++ (xrw ++ c)) 0 = pre.length := fun c => by
  have hx : ws (xrw ++ c) 0 = 0 := ws_non (x := 120) (b := 114 :: 101 :: 102 :: c) (by decide)
  simp only [preS, List.mem_cons, List.not_mem_nil, or_false] at h
  rcases h with rfl | rfl | rfl
  · exact hx
  · show ws (32 :: 37 :: ([97, 32, 120, 114, 101, 102] ++ (13 :: (xrw ++ c)))) 0 = 9
    have hc : cm ([97, 32, 120, 114, 101, 102] ++ (13 :: (xrw ++ c))) 0 = 6 := by
      show cm (97 :: 32 :: 120 :: 114 :: 101 :: 102 :: 13 :: (xrw ++ c)) 0 = 6
      rw [cm_skip (by decide), cm_skip (by decide), cm_skip (by decide), cm_skip (by decide), cm_skip (by decide), cm_skip (by decide), cm_stop]
    have h2 : ws ([97, 32, 120, 114, 101, 102] ++ (13 :: (xrw ++ c))) (6 + 0) = 6 + ws (13 :: (xrw ++ c)) 0 := ws_sh [97, 32, 120, 114, 101, 102] _ 0
    rw [ws_one (.inl rfl), ws_com, hc, h2, ws_one (.inr (.inr (.inl rfl))), hx]
  · show ws (10 :: 9 :: (xrw ++ c)) 0 = 2
    rw [ws_one (.inr (.inl rfl)), ws_one (.inr (.inr (.inr rfl))), hx]
theorem pre_no {pre : List UInt8} (h : pre ∈ preS) : (∀ b ∈ pre, b ≠ 116) ∧ pre.length ≤ 9 := by
  have : ∀ pre ∈ preS, (∀ b ∈ pre, b ≠ 116) ∧ pre.length ≤ 9 := by decide
  exact this pre h
theorem bent_no {s : List UInt8} (h : s ∈ bentS) : (∀ b ∈ s, b ≠ 116) ∧ s.length ≤ 1 := by
  have : ∀ s ∈ bentS, (∀ b ∈ s, b ≠ 116) ∧ s.length ≤ 1 := by decide
  exact this s h
theorem drawn_last {r : List Sec} (h : Drawn r) : ∃ (init : List (Int × V)) (k : Nat) (v : V), tT (flatT r) = init ++ [((k : Int), v)] ∧ k < 400 := by
  obtain ⟨r', s, e⟩ : ∃ r' s, r = r' ++ [s] := by
    rcases List.eq_nil_or_concat r with q | ⟨r', s, q⟩
    · exact absurd q h.ne
    · exact ⟨r', s, by simpa using q⟩
  have hs : s ∈ r := by rw [e]; simp
  have hne := h.ok.ne s hs
  obtain ⟨es, x, e2⟩ : ∃ es x, s.2 = es ++ [x] := by
    rcases List.eq_nil_or_concat s.2 with q | ⟨r', s, q⟩
    · exact absurd q hne
    · exact ⟨r', s, by simpa using q⟩
  have h3 := h.ents s hs
  have h4 := h.low s hs
  rw [e2] at h3
  refine ⟨tT (flatT r' ++ runT s.1 es), s.1 + es.length, tupE (entV x), ?_, by simp at h3; omega⟩
  rw [e, show s = (s.1, s.2) from rfl, e2, flatT_snoc, runT_snoc, ← List.append_assoc]
  simp [tT]
theorem tT_keys (T : Tab) : (tT T).map (·.1) = keysT T := by rw [tT, List.map_map]; rfl
end BodyP8
section Group28
local macro_rules | `(tactic| walk_at "hv") => `(tactic| first
  | ((show EW _ _ _ _ (eval (Expr.Call (Expr.Name (Str.ofString "Entry") _) _ _ _) _) _ _); (refine C_fn (by assumption) (by walk_at "gm") (c_Entry _) ?_))
  | ((show EW _ _ _ _ (eval (Expr.Call (Expr.Name (Str.ofString "Reference") _) _ _ _) _) _ _); (refine C_fn (by assumption) (by walk_at "gm") (c_Reference _) ?_))
  | ((show EW _ _ _ _ (eval (Expr.Call (Expr.Name (Str.ofString "told") _) _ _ _) _) _ _); (refine C_fn (by assumption) (by walk_at "gm") (c_told _) ?_))
  | ((show EW _ _ _ _ (eval (Expr.Call (Expr.Name (Str.ofString "write_classic") _) _ _ _) _) _ _); (refine C_fn (by assumption) (by walk_at "gm") (c_write_classic _) ?_))
  | ((show EW _ _ _ _ (eval (Expr.Call (Expr.Name (Str.ofString "_law_pen") _) _ _ _) _) _ _); (refine C_fn (by assumption) (by walk_at "gm") (c_law_pen _) ?_))
  | ((show EW _ _ _ _ (eval (Expr.Call (Expr.Name (Str.ofString "_law_draw") _) _ _ _) _) _ _); (refine C_fn (by assumption) (by walk_at "gm") (c_law_draw _) ?_))
  | ((show EW _ _ _ _ (eval (Expr.Call (Expr.Name (Str.ofString "_law_pick") _) _ _ _) _) _ _); (refine C_fn (by assumption) (by walk_at "gm") (c_law_pick _) ?_))
  | ((show EW _ _ _ _ (eval (Expr.Call (Expr.Name (Str.ofString "_law_table") _) _ _ _) _) _ _); (refine C_fn (by assumption) (by walk_at "gm") (c_law_table _) ?_))
  | ((show EW _ _ _ _ (eval (Expr.Call (Expr.Name (Str.ofString "_law_octets") _) _ _ _) _) _ _); (refine C_fn (by assumption) (by walk_at "gm") (c_law_octets _) ?_))
  | ((show EW _ _ _ _ (eval (Expr.Call (Expr.Name (Str.ofString "_law_read") _) _ _ _) _) _ _); (refine C_fn (by assumption) (by walk_at "gm") (c_law_read _) ?_))
  | ((show EW _ _ _ _ (eval (Expr.Call (Expr.Name (Str.ofString "_law_heard") _) _ _ _) _) _ _); (refine C_fn (by assumption) (by walk_at "gm") (c_law_heard _) ?_))
  | ((show EW _ _ _ _ (eval (Expr.Call (Expr.Name (Str.ofString "_law_bent") _) _ _ _) _) _ _); (refine C_fn (by assumption) (by walk_at "gm") (c_law_bent _) ?_))
  | ((show EW _ _ _ _ (eval (Expr.Call (Expr.Name (Str.ofString "_law_is_refused") _) _ _ _) _) _ _); (refine C_fn (by assumption) (by walk_at "gm") (c_law_is_refused _) ?_))
  | ((show EW _ _ _ _ (eval (Expr.Call (Expr.Name (Str.ofString "len") _) _ _ _) _) _ _); (refine C_bt (by assumption) (by walk_at "gm") (c_len _) ?_))
  | ((show EW _ _ _ _ (eval (Expr.Call (Expr.Name (Str.ofString "int") _) _ _ _) _) _ _); (refine C_bt (by assumption) (by walk_at "gm") (c_int _) ?_))
  | ((show EW _ _ _ _ (eval (Expr.Call (Expr.Name (Str.ofString "abs") _) _ _ _) _) _ _); (refine C_bt (by assumption) (by walk_at "gm") (c_abs _) ?_))
  | ((show EW _ _ _ _ (eval (Expr.Call (Expr.Name (Str.ofString "max") _) _ _ _) _) _ _); (refine C_bt (by assumption) (by walk_at "gm") (c_max _) ?_))
  | ((show EW _ _ _ _ (eval (Expr.Call (Expr.Name (Str.ofString "range") _) _ _ _) _) _ _); (refine C_bt (by assumption) (by walk_at "gm") (c_range _) ?_))
  | ((show EW _ _ _ _ (eval (Expr.Call (Expr.Name (Str.ofString "dict") _) _ _ _) _) _ _); (refine C_bt (by assumption) (by walk_at "gm") (c_dict _) ?_)))
local macro_rules | `(tactic| walk_at "hr") => `(tactic| first
  | (refine Os_range1 ?_)
  | (refine Os_range2 ?_))
section BodyT11
theorem plain_tup {d : Nat} {vs : List V} (h : ∀ x ∈ vs, plainD d x) : plainD (d + 1) (.tup vs) := by rw [plainD]; exact Or.inr ⟨vs, rfl, h⟩
theorem plain_up {d : Nat} {v : V} (h : plainD 0 v) : plainD (d + 1) v := by rw [plainD]; exact Or.inl h
theorem plain0i (i : Int) : plainD 0 (.int i) := by simp [plainD]
theorem plain0s (w : Str) : plainD 0 (.str w) := by simp [plainD]
theorem plain0n : plainD 0 .none := by simp [plainD]
theorem plain_tupE (e : Ent) : plainD 1 (tupE e) := plain_tup fun x hx => by
  simp only [List.mem_cons, List.not_mem_nil, or_false] at hx
  rcases hx with rfl | rfl | rfl
  · exact plain0s _
  · exact plain0i _
  · exact plain0i _
theorem plain_ref (g : Nat) : plainD 1 (.tup [.str "ref", .int (g : Int), .int 0]) := plain_tup fun x hx => by
  simp only [List.mem_cons, List.not_mem_nil, or_false] at hx
  rcases hx with rfl | rfl | rfl
  · exact plain0s _
  · exact plain0i _
  · exact plain0i _
theorem plain_int' (g : Nat) : plainD 1 (.tup [.str "int", .int (g : Int)]) := plain_tup fun x hx => by
  simp only [List.mem_cons, List.not_mem_nil, or_false] at hx
  rcases hx with rfl | rfl
  · exact plain0s _
  · exact plain0i _
theorem plain_pair {w : Str} {v : V} (h : plainD 1 v) : plainD 2 (.tup [.str w, v]) := plain_tup fun x hx => by
  simp only [List.mem_cons, List.not_mem_nil, or_false] at hx
  rcases hx with rfl | rfl
  · exact plain_up (plain0s _)
  · exact h
theorem trV_parts (n g : Nat) : ∀ x ∈ [V.str "dict", .tup [.str (tx rootN), .tup [.str "ref", .int (g : Int), .int 0]], .tup [.str (tx sizeN), .tup [.str "int", .int (n : Int)]]], plainD 2 x := fun x hx => by
  simp only [List.mem_cons, List.not_mem_nil, or_false] at hx
  rcases hx with rfl | rfl | rfl
  · exact plain_up (plain0s _)
  · exact plain_pair (plain_ref g)
  · exact plain_pair (plain_int' n)
theorem plain_trV (n g : Nat) : plainD 3 (trV n g) := plain_tup (trV_parts n g)
section
variable {p : Pm} {n : Nat} {c : Cx} {ρ : LM} {H : HM} {X : XQ} {Q : V → HM → Prop} {a b : Addr}
theorem O_neTab {T : Tab} {w : V} (ha : H a = some (.fdint (tT T))) (hb : H b = some (.fdint (tT T))) (hnd : (keysT T).Nodup) (hw : plainD 3 w) (h : Q (.bool false) H) :
    O2 p c ρ H (compareOp .NotEq) (.tup [.ref a, w]) (.tup [.ref b, w]) Q X :=
  O_neT rfl (fun Z Fo s st j v w' u u' e1 e2 r1 r2 => by
    match j, e1, e2 with
    | 0, e1, e2 =>
      cases e1; cases e2; cases r1; cases r2
      refine eq_dicts st (d := 1) (by rw [cLine_is']; show 9000 - 10 * c.n + 1 + 1 + 1 < 9900; omega) ha hb (by rw [tT_keys]; exact hnd) fun x hx => ?_
      obtain ⟨y, _, rfl⟩ := List.mem_map.mp hx
      exact plain_tupE y.2
    | 1, e1, e2 =>
      cases e1; cases e2
      exact eq_plain st 3 hw r1 r2 (by rw [cLine_is']; show 9000 - 10 * c.n + 1 + 3 < 9900; omega)) h
theorem law_pen_base {S : Addr} {us : List Value} {ns : List Int} (hS : p.g.IsList S us.toArray) (hI : IntsAre us ns) (hl : ns.length ≤ 63) : CW p 12 (.ref 830) [.con (.ref S)] H
    (fun v H' => ∃ (P C : Addr) (cs : List Int), H P = none ∧ H C = none ∧ P ≠ C ∧ cs.length ≤ 63 ∧ v = .ref P ∧ H' = Pen H P C 0 0 cs) NXc := by
  refine CW.dropped (CW_0 (params := ["script"]) ["script"] [] [some (.con (.ref S))] (fun us h => match us, h with | [u], _ => rfl) ?_)
  intro c F hT hL
  walk_at "W"
  refine E_ListComp (cl := []) (closure_of (by simp [cellsOf])) ?_ F.L
  walk_at "W"
  refine O_slice_base (y := 63) hS hI (by have := hI.length; omega) fun D hD => ?_
  refine I_list (upd_same ..) ?_
  rw [upd_upd]
  have htk : (ns.take 63).map V.int = ns.map .int := by rw [List.take_of_length_le (by omega)]
  rw [htk]
  refine ⟨fun i acc H₃ => ∃ qs : List Int, acc = qs.map .int ∧ qs.length = i ∧ H₃ = upd H D (.flist (ns.map .int)), ⟨by simp; omega, ⟨[], rfl, rfl, rfl⟩, fun i acc H₃ b ⟨_, _, _, h⟩ hb => by rw [h]; exact hb, ?_⟩, ?_⟩
  · rintro C' i y acc H₃ hC hy ⟨qs, rfl, hq, rfl⟩ hHC
    rw [List.getElem?_map] at hy
    obtain ⟨k, hk', rfl⟩ := Option.map_eq_some_iff.mp hy
    refine U1.inComp F hC ["cell"] ["abs", "int"] [none] fun F' ce => ?_
    walk_at "W"
    show EW _ _ _ _ _ _ _
    walk_at "W"
    refine Os_int_int ?_
    walk_at "W"
    refine Os_abs ?_
    walk_at "W"
    refine O_mul (IntMulOk.of_left (by decide)) ?_
    walk_at "W"
    refine Os_int_bool ?_
    walk_at "W"
    exact ⟨qs ++ [_], by rw [List.map_append]; rfl, by simp [hq], rfl⟩
  · rintro acc H₃ C ⟨qs, rfl, hq, rfl⟩ hC _
    obtain ⟨hCD, hHC⟩ := fresh_of hC
    walk_at "W"
    intro P hP
    obtain ⟨hPC, hP⟩ := fresh_of hP
    obtain ⟨hPD, hHP⟩ := fresh_of hP
    refine ⟨Pen H P C 0 0 qs, ?_, P, C, qs, hHP, hHC, hPC, by simp at hq; omega, rfl, rfl⟩
    rw [upd_comm _ _ _ hPC.symm]
    exact LeUpd2 (LeUpd2 (Le.upd _ hD))
end
end BodyT11
end Group28
section BodyP9
theorem trE_ok {N G : Nat} (hn : N < 10 ^ 20) (hg : G < 10 ^ 20) : TEok (trE N G) where
  nd := by show [sizeN, rootN].Nodup; decide
  few := by show 2 < 64; decide
  key := fun e he => by
    have h1 : (∀ k ∈ sizeN, plainN k) ∧ sizeN.length ≤ 1000 := ⟨by unfold plainN; decide, by decide⟩
    have h2 : (∀ k ∈ rootN, plainN k) ∧ rootN.length ≤ 1000 := ⟨by unfold plainN; decide, by decide⟩
    simp only [trE, List.mem_cons, List.not_mem_nil, or_false] at he
    rcases he with rfl | rfl
    · exact h1
    · exact h2
  val := fun e he => by
    simp only [trE, List.mem_cons, List.not_mem_nil, or_false] at he
    rcases he with rfl | rfl
    · exact hn
    · exact ⟨hg, by decide⟩
theorem trE_len {N G : Nat} (hn : N < 10 ^ 20) (hg : G < 10 ^ 20) : (dictB (trE N G)).length ≤ 1000 ∧ (dictParts (trE N G)).foldl (· + ·.length) (1 * ((dictParts (trE N G)).length - 1)) ≤ 16000000 := by
  have d1 : (digB N).length ≤ 20 := by have := digN_len (k := 20) (by decide) hn; simpa [digB] using this
  have d2 : (digB G).length ≤ 20 := by have := digN_len (k := 20) (by decide) hg; simpa [digB] using this
  have d0 : digB 0 = [48] := by decide
  rw [foldl_len]
  constructor
  · simp [dictB, dictParts, dictMid, trE, joinB, keyB, TV.parts, sizeN, rootN, d0]; omega
  · simp [dictParts, dictMid, trE, keyB, TV.parts, sizeN, rootN, d0]; omega
theorem wc_len {r : List Sec} {N G : Nat} (hr : Drawn r) (hn : N < 10 ^ 20) (hg : G < 10 ^ 20) : (wcB r (trE N G)).length ≤ 500 := by
  have h1 := secsB_len (ends := fun _ => [32, 10]) (t := 0) (fun _ => by simp) hr.ok hr.ents
  have h2 := rest_len hn hg
  have h3 := hr.few
  rw [wc_rest]
  simp [xrw]; omega
theorem Os.dropped {p : Pm} {c : Cx} {ρ : LM} {H : HM} {X : XQ} {f : List Value → Sem Value} {vs : List V} {Q : V → HM → Prop} (h : Os p c ρ H f vs (fun v H₁ => ∃ H₂, Le H₂ H₁ ∧ Q v H₂) X) : Os p c ρ H f vs Q X := fun Z Fo s us hn r =>
  wpAny_mono (h Z Fo s us hn r) (fun u s' ⟨Z', H', v, h1, h2, h3, H₂, k, h4⟩ => ⟨Z', H₂, v, h1, St.drop h2 k, h3, h4⟩) fun _ _ e => e
end BodyP9
section Group29
local macro_rules | `(tactic| walk_at "hv") => `(tactic| first
  | ((show EW _ _ _ _ (eval (Expr.Call (Expr.Name (Str.ofString "Entry") _) _ _ _) _) _ _); (refine C_fn (by assumption) (by walk_at "gm") (c_Entry _) ?_))
  | ((show EW _ _ _ _ (eval (Expr.Call (Expr.Name (Str.ofString "Reference") _) _ _ _) _) _ _); (refine C_fn (by assumption) (by walk_at "gm") (c_Reference _) ?_))
  | ((show EW _ _ _ _ (eval (Expr.Call (Expr.Name (Str.ofString "told") _) _ _ _) _) _ _); (refine C_fn (by assumption) (by walk_at "gm") (c_told _) ?_))
  | ((show EW _ _ _ _ (eval (Expr.Call (Expr.Name (Str.ofString "write_classic") _) _ _ _) _) _ _); (refine C_fn (by assumption) (by walk_at "gm") (c_write_classic _) ?_))
  | ((show EW _ _ _ _ (eval (Expr.Call (Expr.Name (Str.ofString "_law_pen") _) _ _ _) _) _ _); (refine C_fn (by assumption) (by walk_at "gm") (c_law_pen _) ?_))
  | ((show EW _ _ _ _ (eval (Expr.Call (Expr.Name (Str.ofString "_law_draw") _) _ _ _) _) _ _); (refine C_fn (by assumption) (by walk_at "gm") (c_law_draw _) ?_))
  | ((show EW _ _ _ _ (eval (Expr.Call (Expr.Name (Str.ofString "_law_pick") _) _ _ _) _) _ _); (refine C_fn (by assumption) (by walk_at "gm") (c_law_pick _) ?_))
  | ((show EW _ _ _ _ (eval (Expr.Call (Expr.Name (Str.ofString "_law_table") _) _ _ _) _) _ _); (refine C_fn (by assumption) (by walk_at "gm") (c_law_table _) ?_))
  | ((show EW _ _ _ _ (eval (Expr.Call (Expr.Name (Str.ofString "_law_octets") _) _ _ _) _) _ _); (refine C_fn (by assumption) (by walk_at "gm") (c_law_octets _) ?_))
  | ((show EW _ _ _ _ (eval (Expr.Call (Expr.Name (Str.ofString "_law_read") _) _ _ _) _) _ _); (refine C_fn (by assumption) (by walk_at "gm") (c_law_read _) ?_))
  | ((show EW _ _ _ _ (eval (Expr.Call (Expr.Name (Str.ofString "_law_heard") _) _ _ _) _) _ _); (refine C_fn (by assumption) (by walk_at "gm") (c_law_heard _) ?_))
  | ((show EW _ _ _ _ (eval (Expr.Call (Expr.Name (Str.ofString "_law_bent") _) _ _ _) _) _ _); (refine C_fn (by assumption) (by walk_at "gm") (c_law_bent _) ?_))
  | ((show EW _ _ _ _ (eval (Expr.Call (Expr.Name (Str.ofString "_law_is_refused") _) _ _ _) _) _ _); (refine C_fn (by assumption) (by walk_at "gm") (c_law_is_refused _) ?_))
  | ((show EW _ _ _ _ (eval (Expr.Call (Expr.Name (Str.ofString "len") _) _ _ _) _) _ _); (refine C_bt (by assumption) (by walk_at "gm") (c_len _) ?_))
  | ((show EW _ _ _ _ (eval (Expr.Call (Expr.Name (Str.ofString "int") _) _ _ _) _) _ _); (refine C_bt (by assumption) (by walk_at "gm") (c_int _) ?_))
  | ((show EW _ _ _ _ (eval (Expr.Call (Expr.Name (Str.ofString "abs") _) _ _ _) _) _ _); (refine C_bt (by assumption) (by walk_at "gm") (c_abs _) ?_))
  | ((show EW _ _ _ _ (eval (Expr.Call (Expr.Name (Str.ofString "max") _) _ _ _) _) _ _); (refine C_bt (by assumption) (by walk_at "gm") (c_max _) ?_))
  | ((show EW _ _ _ _ (eval (Expr.Call (Expr.Name (Str.ofString "range") _) _ _ _) _) _ _); (refine C_bt (by assumption) (by walk_at "gm") (c_range _) ?_))
  | ((show EW _ _ _ _ (eval (Expr.Call (Expr.Name (Str.ofString "dict") _) _ _ _) _) _ _); (refine C_bt (by assumption) (by walk_at "gm") (c_dict _) ?_)))
local macro_rules | `(tactic| walk_at "hr") => `(tactic| first
  | (refine Os_range1 ?_)
  | (refine Os_range2 ?_))
section BodyT12
section
variable {p : Pm} {H : HM}
set_option maxHeartbeats 8000000 in
theorem law_top {m : Nat} {A : Around} {Z : GM} {s : Shared} {S : Addr} {us : List Value} {ns : List Int} (hA : A.handled = none) (hAd : A.depth + 1 ≤ 998 - m) (hAf : A.frames = some []) (hAu : A.units + 3 ≤ 9000 - 10 * m) (hm : m < 600) (hnm : 200 ≤ m)
    (st : StP p Z (fun _ => none) H s) (hsz : p.g.objs.size ≤ s.heap.objs.size) (hS : p.g.IsList S us.toArray) (hI : IntsAre us ns) (hl : ns.length ≤ 63) :
    codeAny (M p) A (.call (.ref 922) ⟨[.ref S], []⟩) (fun r s' => ∃ u Z' H' v, r = .ok (.ret u) ∧ StP p Z' (fun _ => none) H' s' ∧ RepV Z' v u ∧ v = .bool true) s := by
  refine Top_cell2 (n := 200) (y := "script") (z := "pen") (z' := "table") (v := .con (.ref S)) (Q := fun v _ => v = .bool true) hA hAd hAf hAu hm hnm st hsz (.con _)
    ["script", "trailer", "trailer_rows", "made", "plain", "ends", "rest", "data", "turn", "bent", "due", "at", "odd"] ["_law_pen", "_law_table", "max", "Reference", "_law_draw", "told", "write_classic", "dict", "_law_octets", "len", "_law_heard", "range", "_law_pick", "_law_bent", "_law_read", "_law_is_refused", "Entry"]
    [some (.con (.ref S)), none, none, none, none, none, none, none, none, none, none, none, none] (fun _ => rfl) (fun _ => rfl) (by decide) fun c pa ta F hTp hL Cp Ct hpa hta hpt hpL htL => ?_
  have cpa : ∀ {P C : Addr} {n x : Int} {cs : List Int} {B : HM}, B pa = some (.cell none) → pa ≠ P → pa ≠ C → (Pen B P C n x cs) pa = some (.cell none) := fun h h1 h2 => by rw [Pen_ne h1 h2]; exact h
  generalize hB0 : upd (upd H pa (.cell none)) ta (.cell none) = B0
  have o1 : B0 pa = some (.cell none) := by rw [← hB0, upd_ne hpt]; exact upd_same ..
  have o2 : B0 ta = some (.cell none) := by rw [← hB0]; exact upd_same ..
  walk_at "W"
  refine F.call (law_pen_base hS hI hl) (by decide) ?_ (fun _ _ _ h => h.elim)
  rintro v H' ⟨P, C, cs0, hP, hC, hPC, hc0, rfl, rfl⟩
  have paP : pa ≠ P := ne_of_some o1 hP
  have paC : pa ≠ C := ne_of_some o1 hC
  have taP : ta ≠ P := ne_of_some o2 hP
  have taC : ta ≠ C := ne_of_some o2 hC
  walk_at "W"
  refine Uc_ F Cp (v₀ := none) (by rw [Pen_ne paP paC]; exact o1) ?_
  rw [Pen_upd paP paC]
  generalize hB1 : upd B0 pa (.cell (some (.ref P))) = B1
  have p1 : B1 pa = some (.cell (some (.ref P))) := by rw [← hB1]; exact upd_same ..
  have p2 : B1 ta = some (.cell none) := by rw [← hB1, upd_ne hpt.symm]; exact o2
  have p3 : B1 P = none := by rw [← hB1, upd_ne paP.symm]; exact hP
  have p4 : B1 C = none := by rw [← hB1, upd_ne paC.symm]; exact hC
  walk_at "W"
  refine Cl_ F Cp (by rw [Pen_ne paP paC]; exact p1) ?_
  walk_at "W"
  refine F.call (law_table_spec hPC hc0 p3 p4) (by decide) ?_ (fun _ _ _ h => h.elim)
  rintro v H' ⟨r, E, n1, x1, cs1, hr, hE, hEP, hEC, hc1, rfl, rfl⟩
  have hEpa : E ≠ pa := fun q => by rw [q, p1] at hE; cases hE
  have hEta : E ≠ ta := fun q => by rw [q, p2] at hE; cases hE
  have hasc := asc_flat hr.ok
  have hnd := asc_nodup hasc
  have hT9 : (flatT r).length ≤ 9 := by have := flatT_len hr.ents; have := hr.few; omega
  walk_at "W"
  refine Uc_ F Ct (v₀ := none) (by rw [Pen_ne taP taC, upd_ne hEta.symm]; exact p2) ?_
  rw [Pen_upd taP taC]
  refine SW.frz (E := E) (o := .fdint (tT (flatT r))) (.inl ⟨_, by rw [Pen_ne hEP hEC, upd_ne hEta]; exact upd_same .., rfl⟩) ?_
  rw [Pen_upd hEP hEC]
  generalize hB2 : upd (upd (upd B1 E (.dint (tT (flatT r)))) ta (.cell (some (.ref E)))) E (.fdint (tT (flatT r))) = B2
  have q1 : B2 pa = some (.cell (some (.ref P))) := by rw [← hB2, upd_ne hEpa.symm, upd_ne hpt, upd_ne hEpa.symm]; exact p1
  have q2 : B2 ta = some (.cell (some (.ref E))) := by rw [← hB2, upd_ne hEta.symm]; exact upd_same ..
  have q3 : B2 P = none := by rw [← hB2, upd_ne hEP.symm, upd_ne taP.symm, upd_ne hEP.symm]; exact p3
  have q4 : B2 C = none := by rw [← hB2, upd_ne hEC.symm, upd_ne taC.symm, upd_ne hEC.symm]; exact p4
  have q5 : B2 E = some (.fdint (tT (flatT r))) := by rw [← hB2]; exact upd_same ..
  clear hB2 hB1 hB0
  obtain ⟨init, k, vk, hlast, hk⟩ := drawn_last hr
  walk_at "W"
  refine E_Dict2S (by decide) fun D hD => ?_
  have hDP : D ≠ P := fun q => by rw [q, Pen_p hPC] at hD; cases hD
  have hDC : D ≠ C := fun q => by rw [q, Pen_c] at hD; cases hD
  rw [Pen_ne hDP hDC] at hD
  rw [Pen_upd hDP hDC]
  have hDE : E ≠ D := ne_of_some q5 hD
  have hDpa : pa ≠ D := ne_of_some q1 hD
  have hDta : ta ≠ D := ne_of_some q2 hD
  have ePen : ∀ {a : Addr} {o : AObj} {n x : Int} {cs : List Int} {B : HM}, B a = some o → a ≠ P → a ≠ C → (Pen B P C n x cs) a = some o := fun h h1 h2 => by rw [Pen_ne h1 h2]; exact h
  walk_at "W"
  refine Cl_ F Ct (ePen (by rw [upd_ne hDta]; exact q2) taP taC) ?_
  walk_at "W"
  refine Os_max_dictI (k := (k : Int)) (v := vk) (es := init) (ePen (by rw [upd_ne hDE, ← hlast]; exact q5) hEP hEC) (by have := congrArg List.length hlast; simp [tT] at this; omega) (by rw [← hlast, tT_keys]; exact hasc) ?_
  walk_at "W"
  refine Cl_ F Cp (ePen (by rw [upd_ne hDpa]; exact q1) paP paC) ?_
  walk_at "W"
  refine F.call (law_draw_spec (m := 9) (by decide) hPC hc1) (by decide) ?_ (fun _ _ _ h => h.elim)
  rintro v H' ⟨g, n2, x2, cs2, rfl, hg9, hc2, rfl⟩
  walk_at "W"
  refine Os_Reference F (by decide) ?_
  refine ⟨ePen (upd_same ..) hDP hDC, ?_⟩
  rw [Pen_upd hDP hDC, upd_upd, show (1 : Int) + (g : Int) = ((1 + g : Nat) : Int) by omega]
  walk_at "W"
  refine Os.frz (E := D) (o := .fdstr (tE (trE (k + 1) (1 + g)))) (.inr (.inl ⟨_, ePen (upd_same ..) hDP hDC, rfl⟩)) ?_
  rw [Pen_upd hDP hDC, upd_upd]
  have hN : k + 1 < 10 ^ 20 := by omega
  have hG : 1 + g < 10 ^ 20 := by omega
  generalize k + 1 = N at hN ⊢
  generalize 1 + g = G at hG ⊢
  generalize hB3 : upd B2 D (.fdstr (tE (trE N G))) = B3
  have r1 : B3 pa = some (.cell (some (.ref P))) := by rw [← hB3, upd_ne hDpa]; exact q1
  have r2 : B3 ta = some (.cell (some (.ref E))) := by rw [← hB3, upd_ne hDta]; exact q2
  have r3 : B3 P = none := by rw [← hB3, upd_ne hDP.symm]; exact q3
  have r4 : B3 C = none := by rw [← hB3, upd_ne hDC.symm]; exact q4
  have r5 : B3 E = some (.fdint (tT (flatT r))) := by rw [← hB3, upd_ne hDE]; exact q5
  have r6 : B3 D = some (.fdstr (tE (trE N G))) := by rw [← hB3]; exact upd_same ..
  clear hB3 q1 q2 q3 q4 q5
  refine F_callE F (told_dict (n := N) (g := G) (ePen r6 hDP hDC)) (by decide) ?_
  walk_at "W"
  have PE : ∀ {n x : Int} {cs : List Int}, Pen B3 P C n x cs E = some (.fdint (tT (flatT r))) := ePen r5 hEP hEC
  have PD : ∀ {n x : Int} {cs : List Int}, Pen B3 P C n x cs D = some (.fdstr (tE (trE N G))) := ePen r6 hDP hDC
  have Pp : ∀ {n x : Int} {cs : List Int}, Pen B3 P C n x cs pa = some (.cell (some (.ref P))) := ePen r1 paP paC
  have Pt : ∀ {n x : Int} {cs : List Int}, Pen B3 P C n x cs ta = some (.cell (some (.ref E))) := ePen r2 taP taC
  refine E_ListComp (cl := [("table", ta)]) (closure_of (by simp [cellsOf, Ct.cell])) ?_ F.L
  refine Cl_ F Ct Pt ?_
  refine I_dictI (es := tT (flatT r)) PE ⟨fun i acc H₄ => i ≤ (flatT r).length ∧ acc = ((dT (flatT r)).take i).map (fun x => .tup [.int x.1, x.2]) ∧ H₄ = Pen B3 P C n2 x2 cs2, ⟨by simp [tT]; omega, ⟨Nat.zero_le _, rfl, rfl⟩, fun i acc H₄ b ⟨_, _, h⟩ hb => by rw [h]; exact hb, ?_⟩, ?_⟩
  · rintro C' i y acc H₄ hC' hy ⟨hi, rfl, rfl⟩ hHC
    rw [tT, List.map_map, List.getElem?_map] at hy
    obtain ⟨⟨k1, e1⟩, hk1, rfl⟩ := Option.map_eq_some_iff.mp hy
    have hv := gva_tT_mem hnd (List.mem_of_getElem? hk1)
    refine U1.inComp F hC' ["number"] ["Entry"] [none] fun F' ce => ?_
    have C2 := ce _ _ Ct rfl rfl
    walk_at "W"
    show EW _ _ _ _ _ _ _
    walk_at "W"
    refine Cl_ F' C2 Pt ?_
    walk_at "W"
    refine O_item_fdint PE hv ?_
    walk_at "W"
    refine O_item_tup (v := .str (wayS e1.1)) (by decide) (by decide) rfl ?_
    walk_at "W"
    refine Cl_ F' C2 Pt ?_
    walk_at "W"
    refine O_item_fdint PE hv ?_
    walk_at "W"
    refine O_item_tup (v := .int e1.2.1) (by decide) (by decide) rfl ?_
    walk_at "W"
    refine Cl_ F' C2 Pt ?_
    walk_at "W"
    refine O_item_fdint PE hv ?_
    walk_at "W"
    refine O_item_tup (v := .int e1.2.2) (by decide) (by decide) rfl ?_
    walk_at "W"
    refine Os_Entry F' (by decide) ?_
    walk_at "W"
    refine ⟨(List.getElem?_eq_some_iff.mp hk1).1, ?_, rfl⟩
    rw [List.take_add_one, show (dT (flatT r))[i]? = some (k1, entO e1) by rw [dT, List.getElem?_map, hk1]; rfl]
    simp [entO]
  rintro acc H₄ D4 ⟨_, rfl, rfl⟩ hD4 _
  rw [List.take_of_length_le (by simp [tT, dT])]
  walk_at "W"
  refine Os_dict_pairs (ps := dT (flatT r)) (upd_same ..) (by simp [dT]; omega) (by rw [dT, List.map_map]; exact hnd) fun D5 hD5 => ?_
  obtain ⟨hD54, hHD5⟩ := fresh_of hD5
  have hDD4 : D ≠ D4 := ne_of_some PD hD4
  have hDD5 : D ≠ D5 := ne_of_some PD hHD5
  walk_at "W"
  refine Os.frz (E := D5) (o := .fdint (dT (flatT r))) (.inl ⟨_, upd_same .., rfl⟩) ?_
  rw [upd_upd]
  have hwl := wc_len hr hN hG
  obtain ⟨hdl, hd2⟩ := trE_len hN hG
  refine F_callE F (write_classic_spec (r := r) (es := trE N G) hr.ok (by omega) (trE_ok hN hG) (upd_same ..) (by rw [upd_ne hDD5, upd_ne hDD4]; exact PD) (by omega) hdl hd2) (by decide) ?_
  refine U1.drop ((Le.upd _ hD4).trans (Le.upd _ hD5)) ?_
  walk_at "W"
  refine Cl_ F Ct Pt ?_
  walk_at "W"
  intro L1 hL1
  have hEL1 : E ≠ L1 := ne_of_some PE hL1
  walk_at "W"
  refine Os.frz (E := L1) (o := .flist (endV [[32, 10]])) (.inr (.inr ⟨_, upd_same .., rfl⟩)) ?_
  rw [upd_upd]
  refine F_callE F (law_octets_spec (es := [[32, 10]]) hr.ok (by omega) (by rw [upd_ne hEL1]; exact PE) (upd_same ..) (by decide) (by decide) (by decide)) (by decide) ?_
  refine U1.drop (Le.upd _ hL1) ?_
  rw [show (fun t => ([[32, 10]] : List (List UInt8)).getD (t % ([[32, 10]] : List (List UInt8)).length) []) = fun _ => [32, 10] from funext fun t => by simp [Nat.mod_one], wc_rest]
  have hno : ∀ b ∈ xrw ++ [10] ++ secsB (fun _ => [32, 10]) 0 r, b ≠ 116 := fun b hb => by
    rcases List.mem_append.mp hb with hb | hb
    · have : ∀ b ∈ xrw ++ [10], b ≠ 116 := by decide
      exact this b hb
    · exact secsB_no (fun _ => by decide) r 0 b hb
  have hread : readR id (xrw ++ [10] ++ secsB (fun _ => [32, 10]) 0 r ++ restB N G) = .ok (flatT r, 0 + 5 + (secsB (fun _ => [32, 10]) 0 r).length) := by
    have := readR_octets (lim := id) (fun _ _ => rfl) (ends := fun _ => [32, 10]) (fun _ => .inr (.inr (.inr (.inl rfl)))) (r := r) (pre := []) (b := tailB N G) hr.ok (pre_ws (by decide))
    simpa [restB] using this
  rw [wc_rest] at hwl
  have hrl := rest_len hN hG
  have hr0 : 0 < (restB N G).length := by simp [restB, trw]
  generalize xrw ++ [10] ++ secsB (fun _ => [32, 10]) 0 r = plB at hno hread hwl ⊢
  have hpl : plB.length ≤ 16777216 := by simp at hwl; omega
  have hml : (plB ++ restB N G).length ≤ 16777216 := by omega
  walk_at "W"
  rw [cut_to, show (plB ++ restB N G).take (plB.length + 8) = plB ++ [116, 114, 97, 105, 108, 101, 114, 10] by rw [List.take_length_add_append]; simp [restB, trw, tailB]]
  refine O_addB (by simp at hwl ⊢; omega) ?_
  walk_at "W"
  refine if_ne (fun h => absurd rfl h) (fun _ => ?_)
  walk_at "W"
  refine F_callE F (told_dict (n := N) (g := G) PD) (by decide) ?_
  walk_at "W"
  refine O_neP (d := 2) (by decide) (trV_parts N G) ?_
  walk_at "W"
  refine F.call (law_heard_spec (n := N) (g := G) (by omega) (rest_tail hN hG hno hml)) (by decide) ?_ (fun _ _ _ h => h.elim)
  rintro v H' (⟨T, kk, E2, hok, hE2, rfl, rfl⟩ | ⟨j, hbad, _⟩)
  case inr => rw [hread] at hbad; cases hbad
  rw [hread] at hok
  cases hok
  have hEE2 : E ≠ E2 := ne_of_some PE hE2
  walk_at "W"
  refine EW.frz (E := E2) (o := .fdint (tT (flatT r))) (.inl ⟨_, upd_same .., rfl⟩) ?_
  rw [upd_upd]
  refine Cl_ F Ct (by rw [upd_ne (ne_of_some Pt hE2)]; exact Pt) ?_
  walk_at "W"
  refine O_neTab (T := flatT r) (upd_same ..) (by rw [upd_ne hEE2]; exact PE) hnd (plain_trV N G) ?_
  walk_at "W"
  refine SW.drop (Le.upd _ hE2) ?_
  walk_at "W"
  refine K_AssignComp (cl := [("pen", pa)]) (closure_of (by simp [cellsOf, Cp.cell])) ?_ (by
    have e1 := F.block
    have e2 : c.env.kindOf "ends" = some .local := (F.loc "ends" (by decide)).1
    unfold swapsWith
    dsimp only
    rw [e1, e2]
    rfl) F.L
  walk_at "W"
  refine I_rngN (m := 3) rfl ⟨fun i acc H₄ => ∃ (es : List (List UInt8)) (n x : Int) (cs : List Int), acc = endV es ∧ es.length = i ∧ (∀ e ∈ es, IsEnd e) ∧ cs.length ≤ 63 ∧ H₄ = Pen B3 P C n x cs, ⟨by simp, ⟨[], n2, x2, cs2, rfl, rfl, by simp, hc2, rfl⟩, ?_, ?_⟩, ?_⟩
  · rintro i acc H₄ b ⟨es, n, x, cs, rfl, _, _, _, rfl⟩ hb
    have b1 : b ≠ P := fun q => by rw [q, Pen_p hPC] at hb; cases hb
    have b2 : b ≠ C := fun q => by rw [q, Pen_c] at hb; cases hb
    rw [Pen_ne b1 b2] at hb ⊢; exact hb
  · rintro C' i y acc H₄ hC' hy ⟨es, n, x, cs, rfl, hes, hend, hcs, rfl⟩ hHC
    obtain ⟨hi3, rfl⟩ := rng_get hy
    refine U1.inComp F hC' ["turn"] ["_law_pick"] [none] fun F' ce => ?_
    have C2 := ce _ _ Cp rfl rfl
    walk_at "W"
    show EW _ _ _ _ _ _ _
    walk_at "W"
    refine Cl_ F' C2 Pp ?_
    walk_at "W"
    intro A hA
    have hAP : A ≠ P := fun q => by rw [q, Pen_p hPC] at hA; cases hA
    have hAC : A ≠ C := fun q => by rw [q, Pen_c] at hA; cases hA
    rw [Pen_ne hAP hAC] at hA
    rw [Pen_upd hAP hAC]
    walk_at "W"
    refine Os.dropped ?_
    refine F'.call (law_pick_spec hPC hcs hAP hAC (upd_same ..) (by simp) (by simp)) (by decide) ?_ (fun _ _ _ h => h.elim)
    rintro v H' ⟨n3, x3, cs3, hv, hc3, rfl⟩
    obtain ⟨e, rfl, he⟩ : ∃ e, v = .str (tx (natB e)) ∧ IsEnd e := by
      simp only [List.mem_cons, List.not_mem_nil, or_false] at hv
      rcases hv with rfl | rfl | rfl | rfl | rfl
      · exact ⟨[13, 10], rfl, .inl rfl⟩
      · exact ⟨[32, 13], rfl, .inr (.inl rfl)⟩
      · exact ⟨[10], rfl, .inr (.inr (.inl rfl))⟩
      · exact ⟨[32, 10], rfl, .inr (.inr (.inr (.inl rfl)))⟩
      · exact ⟨[13], rfl, .inr (.inr (.inr (.inr rfl)))⟩
    refine ⟨_, Pen_le (Le.upd _ hA), es ++ [e], n3, x3, cs3, by simp [endV], by simp [hes], fun e' he' => ?_, hc3, rfl⟩
    rcases List.mem_append.mp he' with q | q
    · exact hend e' q
    · rw [List.mem_singleton.mp q]; exact he
  rintro acc H₄ L2 ⟨ends, n3, x3, cs3, rfl, hes, hend, hc3, rfl⟩ hL2 _
  rw [rng_len] at hes
  have hEL2 : E ≠ L2 := ne_of_some PE hL2
  have hDL2 : D ≠ L2 := ne_of_some PD hL2
  have hpL2 : pa ≠ L2 := ne_of_some Pp hL2
  have htL2 : ta ≠ L2 := ne_of_some Pt hL2
  have hL2P : L2 ≠ P := fun q => by rw [q, Pen_p hPC] at hL2; cases hL2
  have hL2C : L2 ≠ C := fun q => by rw [q, Pen_c] at hL2; cases hL2
  rw [Pen_upd hL2P hL2C]
  walk_at "W"
  refine EW.frz (E := L2) (o := .flist (endV ends)) (.inr (.inr ⟨_, ePen (upd_same ..) hL2P hL2C, rfl⟩)) ?_
  rw [Pen_upd hL2P hL2C, upd_upd, cut_from, List.drop_left]
  generalize hB4 : upd B3 L2 (.flist (endV ends)) = B4
  have s1 : B4 pa = some (.cell (some (.ref P))) := by rw [← hB4, upd_ne hpL2]; exact r1
  have s2 : B4 ta = some (.cell (some (.ref E))) := by rw [← hB4, upd_ne htL2]; exact r2
  have s3 : B4 P = none := by rw [← hB4, upd_ne hL2P.symm]; exact r3
  have s4 : B4 C = none := by rw [← hB4, upd_ne hL2C.symm]; exact r4
  have s5 : B4 E = some (.fdint (tT (flatT r))) := by rw [← hB4, upd_ne hEL2]; exact r5
  have s7 : B4 L2 = some (.flist (endV ends)) := by rw [← hB4]; exact upd_same ..
  clear hB4 PE PD Pp Pt
  have PE : ∀ {n x : Int} {cs : List Int}, Pen B4 P C n x cs E = some (.fdint (tT (flatT r))) := ePen s5 hEP hEC
  have PL : ∀ {n x : Int} {cs : List Int}, Pen B4 P C n x cs L2 = some (.flist (endV ends)) := ePen s7 hL2P hL2C
  have Pp : ∀ {n x : Int} {cs : List Int}, Pen B4 P C n x cs pa = some (.cell (some (.ref P))) := ePen s1 paP paC
  have Pt : ∀ {n x : Int} {cs : List Int}, Pen B4 P C n x cs ta = some (.cell (some (.ref E))) := ePen s2 taP taC
  refine Cl_ F Cp Pp ?_
  walk_at "W"
  intro A1 hA1
  have hA1P : A1 ≠ P := fun q => by rw [q, Pen_p hPC] at hA1; cases hA1
  have hA1C : A1 ≠ C := fun q => by rw [q, Pen_c] at hA1; cases hA1
  rw [Pen_ne hA1P hA1C] at hA1
  rw [Pen_upd hA1P hA1C]
  walk_at "W"
  refine Os.dropped ?_
  refine F.call (law_pick_spec hPC hc3 hA1P hA1C (upd_same ..) (by simp) (by simp)) (by decide) ?_ (fun _ _ _ h => h.elim)
  rintro v H' ⟨n4, x4, cs4, hv, hc4, rfl⟩
  obtain ⟨pre, rfl, hpre⟩ : ∃ pre, v = .bytes pre ∧ pre ∈ preS := by
    have : v ∈ preS.map V.bytes := hv
    obtain ⟨s, h1, rfl⟩ := List.mem_map.mp this
    exact ⟨s, rfl, h1⟩
  refine ⟨Pen B4 P C n4 x4 cs4, Pen_le (Le.upd _ hA1), ?_⟩
  walk_at "W"
  refine Cl_ F Ct Pt ?_
  walk_at "W"
  refine F_callE F (law_octets_spec (es := ends) hr.ok (by omega) PE PL (by omega) (by omega) (fun l hl => (hend l hl).len)) (by decide) ?_
  have hf : ∀ t, IsEnd ((fun t => ends.getD (t % ends.length) []) t) := fun t => by
    have : t % ends.length < ends.length := Nat.mod_lt _ (by omega)
    dsimp only
    rw [List.getD_eq_getElem?_getD, List.getElem?_eq_getElem this]
    exact hend _ (List.getElem_mem _)
  generalize (fun t => ends.getD (t % ends.length) []) = f at hf ⊢
  have hpno := pre_no hpre
  have hsl := secsB_len (ends := f) (t := 0) (fun t => (hf t).len) hr.ok hr.ents
  have hfew := hr.few
  have hdno : ∀ b ∈ pre ++ (xrw ++ [10] ++ secsB f 0 r), b ≠ 116 := fun b hb => by
    rcases List.mem_append.mp hb with hb | hb
    · exact hpno.1 b hb
    · rcases List.mem_append.mp hb with hb | hb
      · have : ∀ b ∈ xrw ++ [10], b ≠ 116 := by decide
        exact this b hb
      · exact secsB_no (fun t => (hf t).no) r 0 b hb
  have hdread : readR id (pre ++ (xrw ++ [10] ++ secsB f 0 r) ++ restB N G) = .ok (flatT r, pre.length + 5 + (secsB f 0 r).length) := by
    have := readR_octets (lim := id) (fun _ _ => rfl) (ends := f) hf (r := r) (pre := pre) (b := tailB N G) hr.ok (pre_ws hpre)
    rw [← this, restB]; simp
  have hxl : (xrw ++ [10]).length = 5 := rfl
  refine O_addB (by rw [List.length_append, hxl]; omega) ?_
  have hdl : (pre ++ (xrw ++ [10] ++ secsB f 0 r)).length ≤ 400 := by rw [List.length_append, List.length_append, hxl]; omega
  have hd0 : 0 < (pre ++ (xrw ++ [10] ++ secsB f 0 r)).length := by rw [List.length_append, List.length_append, hxl]; omega
  generalize pre ++ (xrw ++ [10] ++ secsB f 0 r) = dB at hdno hdread hdl hd0 ⊢
  walk_at "W"
  refine O_addB (by omega) ?_
  walk_at "W"
  refine F.call (law_heard_spec (l := dB ++ restB N G) (n := N) (g := G) (by rw [List.length_append]; omega) (rest_tail hN hG hdno (by rw [List.length_append]; omega))) (by decide) ?_ (fun _ _ _ h => h.elim)
  rintro v H' (⟨T, kk, E2, hok, hE2, rfl, rfl⟩ | ⟨j, hbad, _⟩)
  case inr => rw [hdread] at hbad; cases hbad
  rw [hdread] at hok
  cases hok
  have hEE2 : E ≠ E2 := ne_of_some PE hE2
  walk_at "W"
  refine EW.frz (E := E2) (o := .fdint (tT (flatT r))) (.inl ⟨_, upd_same .., rfl⟩) ?_
  rw [upd_upd]
  refine Cl_ F Ct (by rw [upd_ne (ne_of_some Pt hE2)]; exact Pt) ?_
  walk_at "W"
  refine O_neTab (T := flatT r) (upd_same ..) (by rw [upd_ne hEE2]; exact PE) hnd (plain_trV N G) ?_
  walk_at "W"
  have hE2P : E2 ≠ P := fun q => by rw [q, Pen_p hPC] at hE2; cases hE2
  have hE2C : E2 ≠ C := fun q => by rw [q, Pen_c] at hE2; cases hE2
  have hE2pa : pa ≠ E2 := ne_of_some Pp hE2
  rw [Pen_upd hE2P hE2C]
  have s1' : (upd B4 E2 (.fdint (tT (flatT r)))) pa = some (.cell (some (.ref P))) := by rw [upd_ne hE2pa]; exact s1
  generalize upd B4 E2 (.fdint (tT (flatT r))) = B5 at s1' ⊢
  have Pp : ∀ {n x : Int} {cs : List Int}, Pen B5 P C n x cs pa = some (.cell (some (.ref P))) := ePen s1' paP paC
  clear PE PL Pt
  refine I_rngN (m := 3) rfl ?_
  refine ⟨fun i vals H' => ∃ (n x : Int) (cs : List Int), cs.length ≤ 63 ∧ vals = [some (.con (.ref S)), some (.ref D), some (trV N G), some (.bytes (plB ++ restB N G)), some (.bytes plB), some (.ref L2), some (.bytes (restB N G)), some (.bytes dB), none, none, none, none, none] ∧ H' = Pen B5 P C n x cs, _, by walk_at "le", ⟨n4, x4, cs4, hc4, rfl, rfl⟩, ?_, ?_⟩
  · rintro i x vals H₁ hx ⟨n5, x5, cs5, hc5, rfl, rfl⟩
    obtain ⟨hi3, rfl⟩ := rng_get hx
    walk_at "W"
    refine Cl_ F Cp Pp ?_
    walk_at "W"
    refine F.call (law_bent_spec hPC hc5 hd0 (by omega)) (by decide) ?_ (fun _ _ _ h => h.elim)
    rintro v H' ⟨at', dd, sg, n6, x6, cs6, hat, hsg, hdd, hc6, rfl, rfl⟩
    obtain ⟨hsno, hsgl⟩ := bent_no hsg
    have hbno : ∀ b ∈ dB.take at' ++ sg ++ dB.drop (at' + dd), b ≠ 116 := fun b hb => by
      rcases List.mem_append.mp hb with hb | hb
      · rcases List.mem_append.mp hb with hb | hb
        · exact hdno b (List.mem_of_mem_take hb)
        · exact hsno b hb
      · exact hdno b (List.mem_of_mem_drop hb)
    have hbl : (dB.take at' ++ sg ++ dB.drop (at' + dd)).length ≤ 401 := by simp only [List.length_append, List.length_take, List.length_drop]; omega
    generalize dB.take at' ++ sg ++ dB.drop (at' + dd) = bB at hbno hbl ⊢
    walk_at "W"
    refine O_addB (by omega) ?_
    have hbl2 : (bB ++ restB N G).length < 950 := by rw [List.length_append]; omega
    have hlim := readR_lim hbl2
    have htail := rest_tail (p := p) hN hG hbno (by omega)
    generalize bB ++ restB N G = l at hbl2 hlim htail ⊢
    walk_at "W"
    refine F.call (law_read_spec (l := l) (by omega)) (by decide) ?_ (fun _ _ _ h => h.elim)
    rintro v H' (⟨T, kk, E3, hok, hE3, rfl, rfl⟩ | ⟨j, hbad, rfl, rfl⟩)
    · have hok' : readR id l = .ok (T, kk) := hlim.trans hok
      walk_at "W"
      refine F.call (law_heard_spec (l := l) (n := N) (g := G) (by omega) htail) (by decide) ?_ (fun _ _ _ h => h.elim)
      rintro v H' (⟨T', kk', E4, hok4, hE4, rfl, rfl⟩ | ⟨j, hbad, _⟩)
      case inr => rw [hok'] at hbad; cases hbad
      rw [hok'] at hok4
      cases hok4
      obtain ⟨hE43, hHE4⟩ := fresh_of hE4
      refine EW.frz (E := E4) (o := .fdint (tT T)) (.inl ⟨_, upd_same .., rfl⟩) ?_
      rw [upd_upd]
      refine EW.frz (E := E3) (o := .fdint (tT T)) (.inl ⟨_, by rw [upd_ne hE43.symm]; exact upd_same .., rfl⟩) ?_
      rw [upd_comm _ _ _ hE43, upd_upd]
      walk_at "W"
      refine O_is_none (by intro x h; cases h) ?_
      walk_at "W"
      refine if_f ?_
      walk_at "W"
      refine O_neTab (T := T) (upd_same ..) (by rw [upd_ne hE43.symm]; exact upd_same ..) (readR_nodup hok') (plain_trV N G) ?_
      refine Mine.B1.drop ((Le.upd _ hE3).trans (Le.upd _ (by rw [upd_ne hE43]; exact hHE4))) ?_
      walk_at "W"
      exact Turn.nx (F := F) (vals := [_, _, _, _, _, _, _, _, none, none, none, none, none]) (by walk_at "le") ⟨n6, x6, cs6, hc6, rfl, rfl⟩
    · have hbad' : readR id l = .error j := hlim.trans hbad
      walk_at "W"
      refine F.call (law_heard_spec (l := l) (n := N) (g := G) (by omega) htail) (by decide) ?_ (fun _ _ _ h => h.elim)
      rintro v H' (⟨T', kk', E4, hok4, hE4, rfl, rfl⟩ | ⟨j4, hbad4, rfl, rfl⟩)
      · rw [hbad'] at hok4; cases hok4
      rw [hbad'] at hbad4
      cases hbad4
      walk_at "W"
      refine O_is_none (by intro x h; cases h) ?_
      walk_at "W"
      refine if_t ?_
      walk_at "W"
      refine O_neP (d := 0) (by decide) (fun x hx => by
        simp only [List.mem_cons, List.not_mem_nil, or_false] at hx
        rcases hx with rfl | rfl
        · exact plain0n
        · exact plain0i _) ?_
      walk_at "W"
      exact Turn.nx (F := F) (vals := [_, _, _, _, _, _, _, _, none, none, none, none, none]) (by walk_at "le") ⟨n6, x6, cs6, hc6, rfl, rfl⟩
  · rintro vals H₁ ⟨n5, x5, cs5, hc5, rfl, rfl⟩
    walk_at "W"
    refine O_pow10 (m := 10) (by decide) ?_
    walk_at "W"
    intro A5 hA5
    have hA5P : A5 ≠ P := fun q => by rw [q, Pen_p hPC] at hA5; cases hA5
    have hA5C : A5 ≠ C := fun q => by rw [q, Pen_c] at hA5; cases hA5
    rw [Pen_ne hA5P hA5C] at hA5
    have hA5pa : pa ≠ A5 := ne_of_some s1' hA5
    rw [Pen_upd hA5P hA5C]
    walk_at "W"
    refine Cl_ F Cp (ePen (by rw [upd_ne hA5pa]; exact s1') paP paC) ?_
    walk_at "W"
    refine F.call (law_draw_spec (m := 5) (by decide) hPC hc5) (by decide) ?_ (fun _ _ _ h => h.elim)
    rintro v H' ⟨d5, n6, x6, cs6, rfl, hd5, hc6, rfl⟩
    obtain ⟨w, i1, j1, hv, hbad⟩ : ∃ (w : Str) (i1 j1 : Int), ([.tup [.str "packed", .int 1, .int 0], .tup [.str "used", .int (10 ^ 10), .int 0], .tup [.str "free", .int 0, .int 65536], .tup [.str "used", .int (0 - 1), .int 0], .tup [.str "used", .int 0, .int (0 - 1)]] : List V)[d5]? = some (.tup [.str w, .int i1, .int j1]) ∧ BadE w i1 j1 := by
      match d5, hd5 with
      | 0, _ => exact ⟨_, _, _, rfl, .inl rfl⟩
      | 1, _ => exact ⟨_, _, _, rfl, .inr ⟨by decide, .inl (by decide)⟩⟩
      | 2, _ => exact ⟨_, _, _, rfl, .inr ⟨by decide, .inr (by decide)⟩⟩
      | 3, _ => exact ⟨_, _, _, rfl, .inr ⟨by decide, .inl (by decide)⟩⟩
      | 4, _ => exact ⟨_, _, _, rfl, .inr ⟨by decide, .inr (by decide)⟩⟩
    walk_at "W"
    refine O_item_list (v := .tup [.str w, .int i1, .int j1]) (ePen (upd_same ..) hA5P hA5C) (by omega) (by omega) (by rw [Int.toNat_natCast]; exact hv) ?_
    walk_at "W"
    refine O_item_tup (v := .str w) (by decide) (by decide) rfl ?_
    walk_at "W"
    refine O_item_tup (v := .int i1) (by decide) (by decide) rfl ?_
    walk_at "W"
    refine O_item_tup (v := .int j1) (by decide) (by decide) rfl ?_
    walk_at "W"
    refine Os_Entry F (by decide) ?_
    walk_at "W"
    refine F_callE F (law_is_refused_bad hbad) (by decide) ?_
    walk_at "W"
    refine Os_Entry F (by decide) ?_
    walk_at "W"
    refine F_callE F law_is_refused_good (by decide) ?_
    walk_at "W"
    exact rfl
end
end BodyT12
end Group29
section BodyJ1
theorem join : PySem.Challenge.rw_nn0237_01.Holds := Mine.hd (by
  intro w s₀ s₁ mg mb G Y fa o pm cd doc dV kV ho hd hcd hD hmg hg args vals as hpre hlay hrd hwl hlo
  have KX := kIn_of Y
  refine Ground.open G ?_
  intro T B D E TW
  have hseer := Top.seer T (by decide +kernel)
  wrow_args hpre hlay hrd hwl hlo
  rename_i ns hs' hlay0 hL1 hr1 hl2 w4 w3 S us w0 hLs ra1 wl1 r0 hI hr' hc1 hc2
  refine enter_call ?_
  let p : Pm := { prog := PySem.Challenge.rw_nn0237_01.prog, w := w, g := s₁.heap, os := s₁.os, q := Mine.hd.view_39, loose := _, mg := mg, mb := mb, X := KX, T := topRead_of T, sysM := fun e => by
                    obtain ⟨mm, ⟨oo, _, _, h1, _⟩, _⟩ := hseer.mods
                    rw [e] at h1; cases h1
                  seer := hseer, tree := rfl }
  have hfa : fa = 922 := by
    have := mg_of p.X p.T.g (show nsIn (Mine.hd.heap_39 p.w.params) mainGlobals "law" = some (some (.ref 922)) by k_is)
    rw [show p.mg = mg from rfl] at this
    have h2 := hmg.symm.trans this
    cases h2; rfl
  subst hfa
  have st : StP p (fun _ => none) (fun _ => none) (fun _ => none) s₁ := ⟨fun _ _ e => e, (fun _ _ e => nomatch e), (fun _ _ e => nomatch e), (fun _ _ e => nomatch e), (fun _ _ e => nomatch e), (fun _ _ e => nomatch e), (fun _ _ e => nomatch e), fun _ _ e => e, hg, rfl⟩
  refine codeAny_mono (law_top (p := p) (m := 500) rfl (by decide) rfl (by decide) (by decide) (by decide) st (Nat.le_refl _) hLs hI (by omega)) fun r s' h => ?_
  obtain ⟨u, Z', H', v, rfl, st', rv, rfl⟩ := h
  cases rv
  refine GoodW.toG ⟨.inl ⟨_, .bool true, [], rfl, fun cls => rfl, ?_, ?_, fun _ => ⟨.nil, by simp⟩⟩, st'.base, st'.os, st'.gens⟩
  · exact .bool true
  · wrow_post)
end BodyJ1
end Walks
end Mine
theorem PySem.Challenge.cw_nn0237_01_holds : PySem.Challenge.rw_nn0237_01.Holds :=
  Mine.join
