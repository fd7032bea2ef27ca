import PyProof.Rows.All
import Wide.All
import OpenK.AllK
import Wide.FinOn
import PySem.Challenge.RW_ov0044_01
set_option Elab.async false
set_option compiler.extract_closed false
set_option linter.unusedVariables false
section
open PySem PySem.W PyProof.Rows PySem.Calls
set_option maxRecDepth 100000
namespace Mine
inductive V where
  | none
  | bool (b : Bool)
  | int (i : Int)
  | tup (vs : List V)
  | ref (a : Addr)
  | raw (v : Value)

abbrev AH := Addr → Option (List V)
abbrev AL := PySem.Str → Option V

mutual
inductive VR (h : Heap) : V → Value → Prop
  | none : VR h .none .none
  | bool (b) : VR h (.bool b) (.bool b)
  | int (i t) : VR h (.int i) (.int i t)
  | tup {vs a xs} : IsTup h a xs → VRs h vs xs.toList → VR h (.tup vs) (.ref a)
  | ref (a) : VR h (.ref a) (.ref a)
  | raw (v) : VR h (.raw v) v
inductive VRs (h : Heap) : List V → List Value → Prop
  | nil : VRs h [] []
  | cons {v vs x xs} : VR h v x → VRs h vs xs → VRs h (v :: vs) (x :: xs)
end

/-- tuples stay -/
def TK (h h' : Heap) : Prop := ∀ a xs, IsTup h a xs → IsTup h' a xs
theorem TK.refl (h : Heap) : TK h h := fun _ _ x => x
theorem TK.trans {h₁ h₂ h₃ : Heap} (x : TK h₁ h₂) (y : TK h₂ h₃) : TK h₁ h₃ := fun a xs t => y a xs (x a xs t)

mutual
theorem VR.mono {h h' : Heap} (k : TK h h') : ∀ {v : V} {x : Value}, VR h v x → VR h' v x
  | _, _, .none => .none
  | _, _, .bool b => .bool b
  | _, _, .int i t => .int i t
  | _, _, .tup ht hv => .tup (k _ _ ht) (VRs.mono k hv)
  | _, _, .ref a => .ref a
  | _, _, .raw v => .raw v
theorem VRs.mono {h h' : Heap} (k : TK h h') : ∀ {v : List V} {x : List Value}, VRs h v x → VRs h' v x
  | _, _, .nil => .nil
  | _, _, .cons hv hr => .cons (VR.mono k hv) (VRs.mono k hr)
end

theorem VR.refInv {h : Heap} {a : Addr} {x : Value} (r : VR h (.ref a) x) : x = .ref a := by cases r; rfl
theorem VR.intInv {h : Heap} {i : Int} {x : Value} (r : VR h (.int i) x) : ∃ t, x = .int i t := by cases r; exact ⟨_, rfl⟩
theorem VR.boolInv {h : Heap} {b : Bool} {x : Value} (r : VR h (.bool b) x) : x = .bool b := by cases r; rfl
theorem VR.noneInv {h : Heap} {x : Value} (r : VR h .none x) : x = .none := by cases r; rfl
theorem VR.rawInv {h : Heap} {v x : Value} (r : VR h (.raw v) x) : x = v := by cases r; rfl

theorem VRs.length {h : Heap} : ∀ {v : List V} {x : List Value}, VRs h v x → v.length = x.length
  | _, _, .nil => rfl
  | _, _, .cons _ r => by simp [VRs.length r]

theorem VRs.size {h : Heap} {v : List V} {x : Array Value} (r : VRs h v x.toList) : v.length = x.size := by rw [r.length, Array.length_toList]
theorem VRs.get {h : Heap} : ∀ {v : List V} {x : List Value} {i : Nat} {y : V}, VRs h v x → v[i]? = some y → ∃ c, x[i]? = some c ∧ VR h y c
  | _, _, i, y, .nil, e => by simp at e
  | _, _, 0, y, .cons (v := v) (x := x) hv _, e => by
    simp at e; subst e; exact ⟨x, by simp, hv⟩
  | _, _, i + 1, y, .cons _ hr, e => by
    simp at e; simpa using VRs.get hr e

theorem VRs.append {h : Heap} : ∀ {v v' : List V} {x x' : List Value}, VRs h v x → VRs h v' x' → VRs h (v ++ v') (x ++ x')
  | _, _, _, _, .nil, r => r
  | _, _, _, _, .cons a b, r => .cons a (VRs.append b r)

theorem VRs.set {h : Heap} {y : V} {c : Value} (hy : VR h y c) : ∀ {v : List V} {x : List Value} (i : Nat), VRs h v x → VRs h (v.set i y) (x.set i c)
  | _, _, _, .nil => .nil
  | _, _, 0, .cons _ r => .cons hy r
  | _, _, i + 1, .cons a r => .cons a (VRs.set hy i r)

theorem VRs.drop {h : Heap} : ∀ {v : List V} {x : List Value} (i : Nat), VRs h v x → VRs h (v.drop i) (x.drop i)
  | _, _, 0, r => r
  | _, _, _ + 1, .nil => .nil
  | _, _, i + 1, .cons _ r => VRs.drop i r
theorem VRs.take {h : Heap} : ∀ {v : List V} {x : List Value} (i : Nat), VRs h v x → VRs h (v.take i) (x.take i)
  | _, _, 0, _ => .nil
  | _, _, _ + 1, .nil => .nil
  | _, _, i + 1, .cons a r => .cons a (VRs.take i r)
theorem VRs.reverse {h : Heap} : ∀ {v : List V} {x : List Value}, VRs h v x → VRs h v.reverse x.reverse
  | _, _, .nil => .nil
  | _, _, .cons a r => by rw [List.reverse_cons, List.reverse_cons]; exact VRs.append (VRs.reverse r) (.cons a .nil)

structure X0 where
  prog : Program
  w : World
  h₀ : Heap
  mg : PySem.Str → Option Value
  mb : PySem.Str → Option Value

structure X0.Ok (X : X0) : Prop where
  g : X.h₀.Ns mainGlobals X.mg
  b : X.h₀.Ns builtinsNs X.mb
  lim : X.h₀.NoLimit

def upd {β : Type} (H : Addr → Option β) (a : Addr) (vs : β) : Addr → Option β := fun b => if b = a then some vs else H b
theorem upd_same {β : Type} {H : Addr → Option β} {a : Addr} {vs : β} : upd H a vs a = some vs := by simp [upd]
theorem upd_ne {β : Type} {H : Addr → Option β} {a b : Addr} {vs : β} (h : b ≠ a) : upd H a vs b = H b := by simp [upd, h]

/-- the concrete heap against the abstract one; B: what must stay -/
structure HR (X : X0) (B : Addr → Option Obj) (H : AH) (h : Heap) : Prop where
  ok : X.Ok
  root : ∀ b o, X.h₀.get? b = some o → B b = some o
  keep : ∀ b o, B b = some o → h.get? b = some o
  cell : ∀ a vs, H a = some vs → B a = none ∧ ∃ xs n, IsL h a xs n ∧ VRs h vs xs.toList

structure FR (B : Addr → Option Obj) (env : Env) (ρ : AL) (h : Heap) : Prop where
  ns : ∃ m, h.Ns env.locals m ∧ ∀ x v, env.kindOf x = some .local → ρ x = some v → ∃ cv, m x = some cv ∧ VR h v cv
  fresh : B env.locals = none
  cell : ∀ x v, (env.kindOf x = some .cell ∨ env.kindOf x = some .free) → ρ x = some v → ∃ c cv, env.cells.lookup x = some c ∧ h.IsCell c (some cv) ∧ VR h v cv
  slot : ∀ x, env.kindOf x = some .cell → ∃ c o, env.cells.lookup x = some c ∧ h.IsCell c o
  own : env.func ≠ none → ∀ x c, env.kindOf x = some .cell → env.cells.lookup x = some c → B c = none
  apart : env.func ≠ none → env.cells.Pairwise fun x y => x.2 ≠ y.2

structure EnvOk (sc : Scope) (env : Env) : Prop where
  scope : env.scope = sc
  kind : sc.kind = ScopeKind.function
  glob : env.globals = mainGlobals
  blt : env.builtins = builtinsNs

def Room (n : Nat) (A : Around) : Prop := A.handled = none ∧ A.depth + n < recursionLimit ∧ A.units + 3 * n + 100 < cLine
theorem Room.le {n m : Nat} {A : Around} (r : Room n A) (h : m ≤ n) : Room m A := ⟨r.1, by have := r.2.1; omega, by have := r.2.2; omega⟩
theorem Room.deeper {n : Nat} {A : Around} {env : Env} (r : Room (n + 1) A) : Room n (A.deeper env) :=
  ⟨r.1, by have := r.2.1; simp only [Around.deeper]; omega, by have := r.2.2; simp only [Around.deeper]; omega⟩
theorem Room.mark {n : Nat} {A : Around} (r : Room n A) : Room n (A.mark none) := by
  have e : A.mark none = A := by cases A; simp [Around.mark]
  rw [e]; exact r
theorem Room.depth {n : Nat} {A : Around} (r : Room n A) : A.depth < recursionLimit := by have := r.2.1; omega
theorem Room.units {n : Nat} {A : Around} (r : Room n A) : A.units + 64 < cLine := by have := r.2.2; omega

/-- everything that stands, the abstract lists left out -/
def allBut (H : AH) (h : Heap) : Addr → Option Obj := fun b => if (H b).isSome then none else h.get? b

theorem HR.all {X B H h} (r : HR X B H h) : HR X (allBut H h) H h where
  ok := r.ok
  root b o e := by
    have hb := r.root b o e
    have : H b = none := by
      cases q : H b with
      | none => rfl
      | some vs => have := (r.cell b vs q).1; rw [hb] at this; cases this
    simp [allBut, this, r.keep b o hb]
  keep b o e := by
    unfold allBut at e
    split at e
    · cases e
    · exact e
  cell a vs e := ⟨by simp [allBut, e], (r.cell a vs e).2⟩

theorem HR.back {X B H h H' h'} (r : HR X B H h) (r' : HR X (allBut H h) H' h') : HR X B H' h' where
  ok := r.ok
  root := r.root
  keep b o e := r'.keep b o (by
    have : H b = none := by
      cases q : H b with
      | none => rfl
      | some vs => have := (r.cell b vs q).1; rw [e] at this; cases this
    simp [allBut, this, r.keep b o e])
  cell a vs e := ⟨by
    cases q : B a with
    | none => rfl
    | some o =>
      have := (r'.cell a vs e).1
      have hn : H a = none := by
        cases q' : H a with
        | none => rfl
        | some vs' => have := (r.cell a vs' q').1; rw [q] at this; cases this
      simp [allBut, hn, r.keep a o q] at this, (r'.cell a vs e).2⟩

theorem ns_not_list {h : Heap} {a : Addr} {m : PySem.Str → Option Value} {xs : Array Value} {n : Nat} (x : h.Ns a m) (y : IsL h a xs n) : False := by
  obtain ⟨o, es, ep, ho, hd, _⟩ := x
  rw [show h.get? a = _ from y] at ho; cases ho; cases hd
theorem cell_not_list {h : Heap} {a : Addr} {v : Option Value} {xs : Array Value} {n : Nat} (x : h.IsCell a v) (y : IsL h a xs n) : False := by
  obtain ⟨o, ho, hd⟩ := x
  rw [show h.get? a = _ from y] at ho; cases ho; cases hd
theorem cell_not_ns {h : Heap} {a : Addr} {v : Option Value} {m : PySem.Str → Option Value} (x : h.IsCell a v) (y : h.Ns a m) : False := by
  obtain ⟨o, ho, hd⟩ := x
  obtain ⟨o', es, ep, ho', hd', _⟩ := y
  rw [ho] at ho'; cases ho'; rw [hd] at hd'; cases hd'
theorem tup_not_list {h : Heap} {a : Addr} {ys xs : Array Value} {n : Nat} (x : IsTup h a ys) (y : IsL h a xs n) : False := by
  obtain ⟨o, ho, hc, _⟩ := x
  rw [show h.get? a = _ from y] at ho; cases ho; exact absurd (Value.type.inj hc) (by decide)
theorem tup_not_ns {h : Heap} {a : Addr} {ys : Array Value} {m : PySem.Str → Option Value} (x : IsTup h a ys) (y : h.Ns a m) : False := by
  obtain ⟨o, ho, hc, n, hd⟩ := x
  obtain ⟨o', es, ep, ho', hd', _⟩ := y
  rw [ho] at ho'; cases ho'; rw [hd] at hd'; cases hd'
theorem tup_not_cell {h : Heap} {a : Addr} {ys : Array Value} {v : Option Value} (x : IsTup h a ys) (y : h.IsCell a v) : False := by
  obtain ⟨o, ho, hc, n, hd⟩ := x
  obtain ⟨o', ho', hd'⟩ := y
  rw [ho] at ho'; cases ho'; rw [hd] at hd'; cases hd'

theorem HR.notNs {X B H h a m} (r : HR X B H h) (x : Heap.Ns h a m) : H a = none := by
  cases q : H a with
  | none => rfl
  | some vs => obtain ⟨xs, n, hl, _⟩ := (r.cell a vs q).2; exact (ns_not_list x hl).elim
theorem HR.notCell {X B H h a v} (r : HR X B H h) (x : Heap.IsCell h a v) : H a = none := by
  cases q : H a with
  | none => rfl
  | some vs => obtain ⟨xs, n, hl, _⟩ := (r.cell a vs q).2; exact (cell_not_list x hl).elim

/-- the frame over a change that keeps all but the abstract lists -/
theorem FR.over {X B env ρ H h h'} (r : HR X B H h) (f : FR B env ρ h) (k : ∀ b o, allBut H h b = some o → h'.get? b = some o) (t : TK h h') : FR B env ρ h' where
  ns := by
    obtain ⟨m, hn, hm⟩ := f.ns
    refine ⟨m, ?_, fun x v hk hv => let ⟨cv, e, q⟩ := hm x v hk hv; ⟨cv, e, q.mono t⟩⟩
    have hH := r.notNs hn
    obtain ⟨o, es, ep, ho, q⟩ := hn
    exact ⟨o, es, ep, k _ _ (by simp [allBut, hH, ho]), q⟩
  fresh := f.fresh
  cell x v hk hv := by
    obtain ⟨c, cv, hc, hi, q⟩ := f.cell x v hk hv
    have hH := r.notCell hi
    obtain ⟨o, ho, hd⟩ := hi
    exact ⟨c, cv, hc, ⟨o, k _ _ (by simp [allBut, hH, ho]), hd⟩, q.mono t⟩
  slot x hk := by
    obtain ⟨c, o, hc, hi⟩ := f.slot x hk
    have hH := r.notCell hi
    obtain ⟨ob, ho, hd⟩ := hi
    exact ⟨c, o, hc, ⟨ob, k _ _ (by simp [allBut, hH, ho]), hd⟩⟩
  own := f.own
  apart := f.apart

/-- growing heaps -/
def Ext (h h' : Heap) : Prop := ∀ b o, h.get? b = some o → h'.get? b = some o
theorem Ext.push (h : Heap) (o : Obj) : Ext h (h.push o) := fun _ _ e => Heap.get?_push_of_some o e
theorem Ext.trans {h₁ h₂ h₃ : Heap} (x : Ext h₁ h₂) (y : Ext h₂ h₃) : Ext h₁ h₃ := fun b o e => y b o (x b o e)
theorem Ext.refl (h : Heap) : Ext h h := fun _ _ e => e
theorem Ext.tk {h h' : Heap} (x : Ext h h') : TK h h' := fun _ _ t => t.keeps x

theorem HR.ext {X B H h h'} (r : HR X B H h) (x : Ext h h') : HR X B H h' where
  ok := r.ok
  root := r.root
  keep b o e := x b o (r.keep b o e)
  cell a vs e := let ⟨hb, xs, n, hl, hv⟩ := r.cell a vs e; ⟨hb, xs, n, x _ _ hl, hv.mono x.tk⟩
theorem FR.ext {X B env ρ H h h'} (r : HR X B H h) (f : FR B env ρ h) (x : Ext h h') : FR B env ρ h' :=
  f.over r (fun b o e => x b o (by unfold allBut at e; split at e; cases e; exact e)) x.tk

/-- a new list -/
theorem HR.newList {X B H h} (r : HR X B H h) {vs : List V} {xs : Array Value} (hv : VRs h vs xs.toList) :
    H h.objs.size = none ∧ HR X B (upd H h.objs.size vs) (h.push { cls := .type "list", data := .seq xs }) := by
  have fresh : ∀ o, h.get? h.objs.size ≠ some o := fun o e => absurd (Heap.lt_size e) (Nat.lt_irrefl _)
  have hH : H h.objs.size = none := by
    cases q : H h.objs.size with
    | none => rfl
    | some vs => obtain ⟨_, xs, n, hl, _⟩ := r.cell _ _ q; exact (fresh _ hl).elim
  refine ⟨hH, r.ok, r.root, fun b o e => Heap.get?_push_of_some _ (r.keep b o e), fun a ws e => ?_⟩
  by_cases ha : a = h.objs.size
  · subst ha
    rw [upd_same] at e; cases e
    refine ⟨?_, xs, 0, Heap.get?_push_size _ rfl, hv.mono (Ext.push _ _).tk⟩
    cases q : B h.objs.size with
    | none => rfl
    | some o => exact (fresh _ (r.keep _ _ q)).elim
  · rw [upd_ne ha] at e
    obtain ⟨hb, ys, n, hl, hw⟩ := r.cell a ws e
    exact ⟨hb, ys, n, Heap.get?_push_of_some _ hl, hw.mono (Ext.push _ _).tk⟩

/-- a change at an address of no tuple -/
theorem TK.sameBut {h h' : Heap} {a : Addr} (hs : Heap.SameBut a h h') (hn : ∀ xs, ¬ IsTup h a xs) : TK h h' := fun b xs t => by
  by_cases hb : b = a
  · subst hb; exact (hn _ t).elim
  · obtain ⟨o, ho, q⟩ := t; exact ⟨o, (hs.2 b hb).trans ho, q⟩
theorem TK.extBut {h h' : Heap} {a : Addr} (hs : Heap.ExtBut a h h') (hn : ∀ xs, ¬ IsTup h a xs) : TK h h' := fun b xs t => by
  by_cases hb : b = a
  · subst hb; exact (hn _ t).elim
  · obtain ⟨o, ho, q⟩ := t; exact ⟨o, hs b o hb ho, q⟩

/-- a list written anew -/
theorem HR.setList {X B H h h' a} (r : HR X B H h) {ws vs : List V} (ha : H a = some ws) {xs : Array Value} {n : Nat} (hl : IsL h' a xs n) (hs : Heap.SameBut a h h') (hv : VRs h vs xs.toList) :
    TK h h' ∧ HR X B (upd H a vs) h' := by
  obtain ⟨hB, ys, k, hl₀, _⟩ := r.cell a ws ha
  have t : TK h h' := TK.sameBut hs fun xs x => tup_not_list x hl₀
  refine ⟨t, r.ok, r.root, fun b o e => ?_, fun b us e => ?_⟩
  · refine (hs.2 b ?_).trans (r.keep b o e)
    intro q; subst q; rw [hB] at e; cases e
  · by_cases hb : b = a
    · subst hb; rw [upd_same] at e; cases e
      exact ⟨hB, xs, n, hl, hv.mono t⟩
    · rw [upd_ne hb] at e
      obtain ⟨hB', zs, k', hl', hw⟩ := r.cell b us e
      exact ⟨hB', zs, k', (hs.2 b hb).trans hl', hw.mono t⟩
theorem FR.setList {X B env ρ H h h' a} (r : HR X B H h) (f : FR B env ρ h) {ws : List V} (ha : H a = some ws) (hs : Heap.SameBut a h h') (t : TK h h') : FR B env ρ h' :=
  f.over r (fun b o e => by
    unfold allBut at e
    split at e
    · cases e
    · rename_i hb
      refine (hs.2 b ?_).trans e
      intro q; subst q; simp [ha] at hb) t

theorem HR.forget {X B H H' h} (r : HR X B H h) (hs : ∀ a vs, H' a = some vs → H a = some vs) : HR X B H' h :=
  ⟨r.ok, r.root, r.keep, fun a vs e => r.cell a vs (hs a vs e)⟩

/-- flows -/
inductive F where
  | next | brk | cont | ret (v : V)
inductive FlR (h : Heap) : F → Flow → Prop
  | next : FlR h .next .next
  | brk : FlR h .brk .brk
  | cont : FlR h .cont .cont
  | ret {v x} : VR h v x → FlR h (.ret v) (.ret x)

section
variable (X : X0) (sc : Scope) (n : Nat)

def Ev (e : Expr) (ρ : AL) (H : AH) (Φ : V → AH → Prop) : Prop :=
  ∀ (env : Env) (B : Addr → Option Obj) (A : Around) (s : Shared) (Q : Value → Shared → Prop) (E : Value → Shared → Prop), EnvOk sc env → Room n A → HR X B H s.heap → FR B env ρ s.heap →
    (∀ v cv H' h' tk, Φ v H' → VR h' v cv → HR X B H' h' → FR B env ρ h' → TK s.heap h' → Q cv { s with heap := h', toks := tk }) →
    wpAny (model X.prog X.w) A (eval e env) Q E s

def Tv (e : Expr) (ρ : AL) (H : AH) (Φ : Bool → AH → Prop) : Prop :=
  ∀ (env : Env) (B : Addr → Option Obj) (A : Around) (s : Shared) (Q : Bool → Shared → Prop) (E : Value → Shared → Prop), EnvOk sc env → Room n A → HR X B H s.heap → FR B env ρ s.heap →
    (∀ b H' h' tk, Φ b H' → HR X B H' h' → FR B env ρ h' → TK s.heap h' → Q b { s with heap := h', toks := tk }) →
    wpAny (model X.prog X.w) A (isTrue e env (eval e env)) Q E s

def Es (es : List Expr) (ρ : AL) (H : AH) (Φ : List V → AH → Prop) : Prop :=
  ∀ (env : Env) (pos : Pos) (B : Addr → Option Obj) (A : Around) (s : Shared) (Q : List Value → Shared → Prop) (E : Value → Shared → Prop), EnvOk sc env → Room n A → HR X B H s.heap → FR B env ρ s.heap →
    (∀ v cv H' h' tk, Φ v H' → VRs h' v cv → HR X B H' h' → FR B env ρ h' → TK s.heap h' → Q cv { s with heap := h', toks := tk }) →
    wpAny (model X.prog X.w) A (spliced (backTo pos (starEach es env))) Q E s

def St (st : Stmt) (ρ : AL) (H : AH) (Φ : F → AL → AH → Prop) : Prop :=
  ∀ (env : Env) (B : Addr → Option Obj) (A : Around) (s : Shared) (Q : Flow → Shared → Prop) (E : Value → Shared → Prop), EnvOk sc env → env.func ≠ none → Room n A → HR X B H s.heap → FR B env ρ s.heap →
    (∀ f cf ρ' H' h' tk, Φ f ρ' H' → FlR h' f cf → HR X B H' h' → FR B env ρ' h' → TK s.heap h' → Q cf { s with heap := h', toks := tk }) →
    wpAny (model X.prog X.w) A (exec st env) Q E s

def Sx (ss : List Stmt) (ρ : AL) (H : AH) (Φ : F → AL → AH → Prop) : Prop :=
  ∀ (env : Env) (B : Addr → Option Obj) (A : Around) (s : Shared) (Q : Flow → Shared → Prop) (E : Value → Shared → Prop), EnvOk sc env → env.func ≠ none → Room n A → HR X B H s.heap → FR B env ρ s.heap →
    (∀ f cf ρ' H' h' tk, Φ f ρ' H' → FlR h' f cf → HR X B H' h' → FR B env ρ' h' → TK s.heap h' → Q cf { s with heap := h', toks := tk }) →
    wpAny (model X.prog X.w) A (execs ss env) Q E s
end

/-- an operation on values, no frame in sight -/
def Op (X : X0) (n : Nat) (t : List Value → Sem Value) (vs : List V) (H : AH) (Φ : V → AH → Prop) : Prop :=
  ∀ (B : Addr → Option Obj) (A : Around) (s : Shared) (Q : Value → Shared → Prop) (E : Value → Shared → Prop) (cvs : List Value), Room n A → HR X B H s.heap → VRs s.heap vs cvs →
    (∀ v cv H' h' tk, Φ v H' → VR h' v cv → HR X B H' h' → TK s.heap h' → Q cv { s with heap := h', toks := tk }) →
    wpAny (model X.prog X.w) A (t cvs) Q E s

/-- a call of the function that the value v is -/
def Calls (X : X0) (n : Nat) (f : Value) (vs : List V) (H : AH) (Φ : V → AH → Prop) : Prop := Op X n (fun cvs => call f cvs) vs H Φ

theorem Op.use {X n t vs H Φ} (o : Op X n t vs H Φ) {B} {A : Around} {s : Shared} {env : Env} {ρ : AL} {Q : Value → Shared → Prop} {E : Value → Shared → Prop} {cvs : List Value} (hR : Room n A) (r : HR X B H s.heap) (f : FR B env ρ s.heap) (hv : VRs s.heap vs cvs)
    (k : ∀ v cv H' h' tk, Φ v H' → VR h' v cv → HR X B H' h' → FR B env ρ h' → TK s.heap h' → Q cv { s with heap := h', toks := tk }) :
    wpAny (model X.prog X.w) A (t cvs) Q E s :=
  o (allBut H s.heap) A s Q E cvs hR r.all hv fun v cv H' h' tk p q r' t' => k v cv H' h' tk p q (r.back r') (f.over r r'.keep t') t'

theorem Op.mono {X n t vs H} {Φ Ψ : V → AH → Prop} (o : Op X n t vs H Φ) (h : ∀ v H', Φ v H' → Ψ v H') : Op X n t vs H Ψ :=
  fun B A s Q E cvs hR r hv k => o B A s Q E cvs hR r hv fun v cv H' h' tk p => k v cv H' h' tk (h v H' p)
theorem Op.le {X n m t vs H} {Φ : V → AH → Prop} (o : Op X m t vs H Φ) (h : m ≤ n) : Op X n t vs H Φ :=
  fun B A s Q E cvs hR r hv k => o B A s Q E cvs (hR.le h) r hv k
/-- lists that the operation does not name stay: it may be told of fewer lists -/
theorem Op.pure {X n t vs H} {Φ : V → AH → Prop} {v : V} (o : Op X n t vs H fun v' H' => v' = v ∧ H' = H) (h : Φ v H) : Op X n t vs H Φ :=
  o.mono fun v' H' ⟨a, b⟩ => by subst a; subst b; exact h
variable {X : X0} {sc : Scope} {n : Nat} {ρ : AL} {H : AH}

theorem VRs.one {h : Heap} {v : V} {xs : List Value} (r : VRs h [v] xs) : ∃ x, xs = [x] ∧ VR h v x := by
  cases r with | cons a r => cases r; exact ⟨_, rfl, a⟩
theorem VRs.two {h : Heap} {v w : V} {xs : List Value} (r : VRs h [v, w] xs) : ∃ x y, xs = [x, y] ∧ VR h v x ∧ VR h w y := by
  cases r with | cons a r => obtain ⟨y, rfl, b⟩ := r.one; exact ⟨_, y, rfl, a, b⟩
theorem VRs.int2 {h : Heap} {a b : Int} {xs : List Value} (r : VRs h [.int a, .int b] xs) : ∃ t u, xs = [.int a t, .int b u] := by
  obtain ⟨x, y, rfl, p, q⟩ := r.two
  obtain ⟨t, rfl⟩ := p.intInv
  obtain ⟨u, rfl⟩ := q.intInv
  exact ⟨t, u, rfl⟩
theorem VRs.int1 {h : Heap} {a : Int} {xs : List Value} (r : VRs h [.int a] xs) : ∃ t, xs = [.int a t] := by
  obtain ⟨x, rfl, p⟩ := r.one
  obtain ⟨t, rfl⟩ := p.intInv
  exact ⟨t, rfl⟩
theorem VRs.ref1 {h : Heap} {a : Addr} {xs : List Value} (r : VRs h [.ref a] xs) : xs = [.ref a] := by
  obtain ⟨x, rfl, p⟩ := r.one
  rw [p.refInv]
theorem VRs.ref2 {h : Heap} {a b : Addr} {xs : List Value} (r : VRs h [.ref a, .ref b] xs) : xs = [.ref a, .ref b] := by
  obtain ⟨x, y, rfl, p, q⟩ := r.two
  rw [p.refInv, q.refInv]
theorem VRs.refint {h : Heap} {a : Addr} {i : Int} {xs : List Value} (r : VRs h [.ref a, .int i] xs) : ∃ t, xs = [.ref a, .int i t] := by
  obtain ⟨x, y, rfl, p, q⟩ := r.two
  obtain ⟨t, rfl⟩ := q.intInv
  exact ⟨t, by rw [p.refInv]⟩
theorem VRs.intref {h : Heap} {a : Addr} {i : Int} {xs : List Value} (r : VRs h [.int i, .ref a] xs) : ∃ t, xs = [.int i t, .ref a] := by
  obtain ⟨x, y, rfl, p, q⟩ := r.two
  obtain ⟨t, rfl⟩ := p.intInv
  exact ⟨t, by rw [q.refInv]⟩
theorem VR.tupInv {h : Heap} {vs : List V} {x : Value} (r : VR h (.tup vs) x) : ∃ a xs, x = .ref a ∧ IsTup h a xs ∧ VRs h vs xs.toList := by
  cases r with | tup t q => exact ⟨_, _, rfl, t, q⟩
/-! ### names -/
def isVar (sc : Scope) (x : PySem.Str) : Bool := match sc.names.lookup x with
  | some .local | some .cell | some .free => true
  | _ => false

theorem Ev_Name {x pos v} {Φ : V → AH → Prop} (hk : isVar sc x = true) (hv : ρ x = some v) (h : Φ v H) (hd : (x == ("__debug__" : PySem.Str)) = false := by decide) (hn : (x == ("__classdict__" : PySem.Str)) = false := by decide) :
    Ev X sc n (.Name x pos) ρ H Φ := by
  intro env B A s Q E he hA hR hF k
  have hkind : env.scope.kind = .function := he.scope ▸ he.kind
  have hko : env.kindOf x = sc.names.lookup x := by rw [Env.kindOf, he.scope]
  refine wpAny_Name ?_ hd
  unfold isVar at hk
  split at hk
  · rename_i e
    obtain ⟨m, hm, hmv⟩ := hF.ns
    obtain ⟨cv, e1, q⟩ := hmv x v (hko.trans e) hv
    exact wpAny_loadName_local hkind (hko.trans e) hm e1 (k v cv H s.heap s.toks h q hR hF (TK.refl _))
  · rename_i e
    obtain ⟨c, cv, hc, hi, q⟩ := hF.cell x v (.inl (hko.trans e)) hv
    exact wpAny_loadName_cell hkind (hko.trans e) hc hi (k v cv H s.heap s.toks h q hR hF (TK.refl _))
  · rename_i e
    obtain ⟨c, cv, hc, hi, q⟩ := hF.cell x v (.inr (hko.trans e)) hv
    exact wpAny_loadName_free hkind (hko.trans e) hc hi (k v cv H s.heap s.toks h q hR hF (TK.refl _)) hn
  · cases hk

theorem HR.ext₀ {X B H h} (r : HR X B H h) : Ext X.h₀ h := fun b o e => r.keep b o (r.root b o e)

theorem Ev_Glob {x pos v cv} {Φ : V → AH → Prop} (hk : sc.names.lookup x = some .globalImplicit) (hg : X.mg x = some cv) (hv : VR X.h₀ v cv) (h : Φ v H) (hd : (x == ("__debug__" : PySem.Str)) = false := by decide) :
    Ev X sc n (.Name x pos) ρ H Φ := by
  intro env B A s Q E he hA hR hF k
  have hkind : env.scope.kind = .function := he.scope ▸ he.kind
  have hko : env.kindOf x = sc.names.lookup x := by rw [Env.kindOf, he.scope]
  refine Name_function_global hkind (hko.trans hk) (loadGlobal_global (mg := X.mg) (by rw [he.glob]; exact hR.ok.g.keeps hR.ext₀) hg ?_) hd
  exact k v cv H s.heap s.toks h (hv.mono hR.ext₀.tk) hR hF (TK.refl _)

theorem Ev_Blt {x pos cv} {Φ : V → AH → Prop} (hk : sc.names.lookup x = some .globalImplicit) (hg : X.mg x = none) (hb : X.mb x = some cv) (h : Φ (.raw cv) H) (hd : (x == ("__debug__" : PySem.Str)) = false := by decide) :
    Ev X sc n (.Name x pos) ρ H Φ := by
  intro env B A s Q E he hA hR hF k
  have hkind : env.scope.kind = .function := he.scope ▸ he.kind
  have hko : env.kindOf x = sc.names.lookup x := by rw [Env.kindOf, he.scope]
  refine Name_function_global hkind (hko.trans hk) (loadGlobal_builtin (mg := X.mg) (mb := X.mb) (by rw [he.glob]; exact hR.ok.g.keeps hR.ext₀) hg (by rw [he.blt]; exact hR.ok.b.keeps hR.ext₀) hb ?_) hd
  exact k (.raw cv) cv H s.heap s.toks h (.raw _) hR hF (TK.refl _)

/-! ### constants -/
theorem Ev_int {i k pos} {Φ : V → AH → Prop} (h : Φ (.int i) H) : Ev X sc n (.Constant (.int i) k pos) ρ H Φ :=
  fun _ _ _ s _ _ _ _ hR hF q => wpAny_Constant_int (q (.int i) _ H s.heap _ h (.int _ _) hR hF (TK.refl _))
theorem Ev_bool {i k pos} {Φ : V → AH → Prop} (h : Φ (.bool i) H) : Ev X sc n (.Constant (.bool i) k pos) ρ H Φ :=
  fun _ _ _ s _ _ _ _ hR hF q => Constant_bool (q (.bool i) _ H s.heap s.toks h (.bool _) hR hF (TK.refl _))
theorem Ev_none {k pos} {Φ : V → AH → Prop} (h : Φ .none H) : Ev X sc n (.Constant .none k pos) ρ H Φ :=
  fun _ _ _ s _ _ _ _ hR hF q => Constant_none (q .none _ H s.heap s.toks h .none hR hF (TK.refl _))

/-! ### operators -/
def bin (op : Operator) : List Value → Sem Value
  | [x, y] => binaryOp op x y
  | _ => unsupported "bin"
def cmp (op : CmpOp) : List Value → Sem Value
  | [x, y] => compareOp op x y
  | _ => unsupported "cmp"
def una (op : UnaryOp) : List Value → Sem Value
  | [x] => unaryOp op x
  | _ => unsupported "una"

theorem Ev_BinOp {l op r pos} {Φ : V → AH → Prop} (h : Ev X sc n l ρ H fun a H₁ => Ev X sc n r ρ H₁ fun b H₂ => Op X n (bin op) [a, b] H₂ Φ) : Ev X sc n (.BinOp l op r pos) ρ H Φ := by
  intro env B A s Q E he hA hR hF k
  refine wpAny_BinOp (h env B A s _ E he hA hR hF fun a ca H₁ h₁ tk₁ p₁ v₁ R₁ F₁ t₁ => ?_)
  refine p₁ env B A _ _ E he hA R₁ F₁ fun b cb H₂ h₂ tk₂ p₂ v₂ R₂ F₂ t₂ => ?_
  exact p₂.use (t := bin op) hA R₂ F₂ (.cons (v₁.mono t₂) (.cons v₂ .nil)) fun v cv H' h' tk p q R F t => k v cv H' h' tk p q R F (t₁.trans (t₂.trans t))

theorem Ev_Compare {l op r pos} {Φ : V → AH → Prop} (h : Ev X sc n l ρ H fun a H₁ => Ev X sc n r ρ H₁ fun b H₂ => Op X n (cmp op) [a, b] H₂ Φ)
    (hm : behindInMarks op r = false := by with_unfolding_all rfl) : Ev X sc n (.Compare l [op] [r] pos) ρ H Φ := by
  intro env B A s Q E he hA hR hF k
  refine wpAny_Compare1 (h env B A s _ E he hA hR hF fun a ca H₁ h₁ tk₁ p₁ v₁ R₁ F₁ t₁ => ?_) hm
  refine p₁ env B A _ _ E he hA R₁ F₁ fun b cb H₂ h₂ tk₂ p₂ v₂ R₂ F₂ t₂ => ?_
  exact p₂.use (t := cmp op) hA R₂ F₂ (.cons (v₁.mono t₂) (.cons v₂ .nil)) fun v cv H' h' tk p q R F t => k v cv H' h' tk p q R F (t₁.trans (t₂.trans t))

theorem Ev_Unary {op x pos} {Φ : V → AH → Prop} (h : Ev X sc n x ρ H fun a H₁ => Op X n (una op) [a] H₁ Φ) : Ev X sc n (.UnaryOp op x pos) ρ H Φ := by
  intro env B A s Q E he hA hR hF k
  refine UnaryOp_ (h env B A s _ E he hA hR hF fun a ca H₁ h₁ tk₁ p₁ v₁ R₁ F₁ t₁ => ?_)
  exact p₁.use (t := una op) hA R₁ F₁ (.cons v₁ .nil) fun v cv H' h' tk p q R F t => k v cv H' h' tk p q R F (t₁.trans t)

theorem Ev_IfExp {t b o pos} {Φ : V → AH → Prop} (h : Tv X sc n t ρ H fun c H₁ => if c = true then Ev X sc n b ρ H₁ Φ else Ev X sc n o ρ H₁ Φ) : Ev X sc n (.IfExp t b o pos) ρ H Φ := by
  intro env B A s Q E he hA hR hF k
  refine IfExp_ (h env B A s _ E he hA hR hF fun c H₁ h₁ tk₁ p₁ R₁ F₁ t₁ => ?_)
  cases c with
  | true => exact p₁ env B A _ _ E he hA R₁ F₁ fun v cv H' h' tk p q R F t => k v cv H' h' tk p q R F (t₁.trans t)
  | false => exact p₁ env B A _ _ E he hA R₁ F₁ fun v cv H' h' tk p q R F t => k v cv H' h' tk p q R F (t₁.trans t)

/-! ### truth -/
theorem Tv_Compare {l op r pos} {Φ : Bool → AH → Prop} (h : Ev X sc n l ρ H fun a H₁ => Ev X sc n r ρ H₁ fun b H₂ => Op X n (cmp op) [a, b] H₂ fun v H' => ∃ c, v = .bool c ∧ Φ c H')
    (hm : behindInMarks op r = false := by with_unfolding_all rfl) : Tv X sc n (.Compare l [op] [r] pos) ρ H Φ := by
  intro env B A s Q E he hA hR hF k
  refine wpAny_isTrue_Compare1 (h env B A s _ E he hA hR hF fun a ca H₁ h₁ tk₁ p₁ v₁ R₁ F₁ t₁ => ?_) hm
  refine p₁ env B A _ _ E he hA R₁ F₁ fun b cb H₂ h₂ tk₂ p₂ v₂ R₂ F₂ t₂ => ?_
  refine p₂.use (t := cmp op) hA R₂ F₂ (.cons (v₁.mono t₂) (.cons v₂ .nil)) fun v cv H' h' tk p q R F t => ?_
  obtain ⟨c, rfl, p⟩ := p
  cases q
  exact wpAny_truthy_bool (k c H' h' tk p R F (t₁.trans (t₂.trans t)))

theorem Tv_Call {f args kw pos} {Φ : Bool → AH → Prop} (h : Ev X sc n (.Call f args kw pos) ρ H fun v H' => ∃ c, v = .bool c ∧ Φ c H') : Tv X sc n (.Call f args kw pos) ρ H Φ := by
  intro env B A s Q E he hA hR hF k
  refine isTrue_plain (h env B A s _ E he hA hR hF fun v cv H₁ h₁ tk₁ p₁ v₁ R₁ F₁ t₁ => ?_)
  obtain ⟨c, rfl, p⟩ := p₁
  obtain rfl := v₁.boolInv
  exact wpAny_truthy_bool (k c H₁ h₁ tk₁ p R₁ F₁ t₁)

theorem Tv_Not {x pos} {Φ : Bool → AH → Prop} (h : Tv X sc n x ρ H fun c H' => Φ (!c) H') : Tv X sc n (.UnaryOp .Not x pos) ρ H Φ :=
  fun env B A s _ E he hA hR hF k => isTrue_not (h env B A s _ E he hA hR hF fun c => k (!c))
theorem Tv_and_nil {pos} {Φ : Bool → AH → Prop} (h : Φ true H) : Tv X sc n (.BoolOp .And [] pos) ρ H Φ :=
  fun _ _ _ s _ _ _ _ hR hF k => isTrue_and_nil (k true H s.heap s.toks h hR hF (TK.refl _))
theorem Tv_or_nil {pos} {Φ : Bool → AH → Prop} (h : Φ false H) : Tv X sc n (.BoolOp .Or [] pos) ρ H Φ :=
  fun _ _ _ s _ _ _ _ hR hF k => isTrue_or_nil (k false H s.heap s.toks h hR hF (TK.refl _))
theorem Tv_and {x rest pos} {Φ : Bool → AH → Prop} (h : Tv X sc n x ρ H fun c H₁ => if c = true then Tv X sc n (.BoolOp .And rest pos) ρ H₁ Φ else Φ false H₁) : Tv X sc n (.BoolOp .And (x :: rest) pos) ρ H Φ := by
  intro env B A s Q E he hA hR hF k
  refine isTrue_and (h env B A s _ E he hA hR hF fun c H₁ h₁ tk₁ p₁ R₁ F₁ t₁ => ?_)
  cases c with
  | false => exact k false H₁ h₁ tk₁ p₁ R₁ F₁ t₁
  | true => exact p₁ env B A _ _ E he hA R₁ F₁ fun c H' h' tk p R F t => k c H' h' tk p R F (t₁.trans t)
theorem Tv_or {x rest pos} {Φ : Bool → AH → Prop} (h : Tv X sc n x ρ H fun c H₁ => if c = true then Φ true H₁ else Tv X sc n (.BoolOp .Or rest pos) ρ H₁ Φ) : Tv X sc n (.BoolOp .Or (x :: rest) pos) ρ H Φ := by
  intro env B A s Q E he hA hR hF k
  refine isTrue_or (h env B A s _ E he hA hR hF fun c H₁ h₁ tk₁ p₁ R₁ F₁ t₁ => ?_)
  cases c with
  | true => exact k true H₁ h₁ tk₁ p₁ R₁ F₁ t₁
  | false => exact p₁ env B A _ _ E he hA R₁ F₁ fun c H' h' tk p R F t => k c H' h' tk p R F (t₁.trans t)

/-- an and, an or as a value: items that are bools -/
theorem Ev_bool_one {op e pos} {Φ : V → AH → Prop} (h : Ev X sc n e ρ H Φ) : Ev X sc n (.BoolOp op [e] pos) ρ H Φ :=
  fun env B A s _ E he hA hR hF k => BoolOp_one (h env B A s _ E he hA hR hF k)
theorem Ev_and {e₁ e₂ rest pos} {Φ : V → AH → Prop} (h : Ev X sc n e₁ ρ H fun v H₁ => ∃ c, v = .bool c ∧ if c = true then Ev X sc n (.BoolOp .And (e₂ :: rest) pos) ρ H₁ Φ else Φ (.bool false) H₁) :
    Ev X sc n (.BoolOp .And (e₁ :: e₂ :: rest) pos) ρ H Φ := by
  intro env B A s Q E he hA hR hF k
  refine BoolOp_and (h env B A s _ E he hA hR hF fun v cv H₁ h₁ tk₁ p₁ v₁ R₁ F₁ t₁ => ?_)
  obtain ⟨c, rfl, p⟩ := p₁
  obtain rfl := v₁.boolInv
  refine wpAny_truthy_bool ?_
  cases c with
  | false => exact k _ _ H₁ h₁ tk₁ p (.bool _) R₁ F₁ t₁
  | true => exact p env B A _ _ E he hA R₁ F₁ fun v cv H' h' tk p q R F t => k v cv H' h' tk p q R F (t₁.trans t)
theorem Ev_or {e₁ e₂ rest pos} {Φ : V → AH → Prop} (h : Ev X sc n e₁ ρ H fun v H₁ => ∃ c, v = .bool c ∧ if c = true then Φ (.bool true) H₁ else Ev X sc n (.BoolOp .Or (e₂ :: rest) pos) ρ H₁ Φ) :
    Ev X sc n (.BoolOp .Or (e₁ :: e₂ :: rest) pos) ρ H Φ := by
  intro env B A s Q E he hA hR hF k
  refine BoolOp_or (h env B A s _ E he hA hR hF fun v cv H₁ h₁ tk₁ p₁ v₁ R₁ F₁ t₁ => ?_)
  obtain ⟨c, rfl, p⟩ := p₁
  obtain rfl := v₁.boolInv
  refine wpAny_truthy_bool ?_
  cases c with
  | true => exact k _ _ H₁ h₁ tk₁ p (.bool _) R₁ F₁ t₁
  | false => exact p env B A _ _ E he hA R₁ F₁ fun v cv H' h' tk p q R F t => k v cv H' h' tk p q R F (t₁.trans t)

/-! ### rows of expressions, displays -/
theorem Es_nil {Φ : List V → AH → Prop} (h : Φ [] H) : Es X sc n [] ρ H Φ :=
  fun _ _ _ _ s _ _ _ _ hR hF k => spliced_nil (k [] [] H s.heap s.toks h .nil hR hF (TK.refl _))
theorem Es_cons {e es} {Φ : List V → AH → Prop} (h : Ev X sc n e ρ H fun v H₁ => Es X sc n es ρ H₁ fun vs H₂ => Φ (v :: vs) H₂)
    (hs : ∀ env, starEach (e :: es) env = (false, eval e env) :: starEach es env := by intro _; rfl) : Es X sc n (e :: es) ρ H Φ := by
  intro env pos B A s Q E he hA hR hF k
  rw [hs]
  refine spliced_cons (x := eval e env) (h env B A s _ E he hA hR hF fun v cv H₁ h₁ tk₁ p₁ v₁ R₁ F₁ t₁ => ?_)
  exact p₁ env pos B A _ _ E he hA R₁ F₁ fun vs cvs H' h' tk p q R F t => k (v :: vs) (cv :: cvs) H' h' tk p (.cons (v₁.mono t) q) R F (t₁.trans t)

theorem HR.pushTup {X B H h} (r : HR X B H h) (o : Obj) : HR X B H (h.push o) := r.ext (Ext.push _ _)

theorem Ev_Tuple {es k pos} {Φ : V → AH → Prop} (h : Es X sc n es ρ H fun vs H₁ => vs.length ≤ sizeLine ∧ Φ (.tup vs) H₁) : Ev X sc n (.Tuple es k pos) ρ H Φ := by
  intro env B A s Q E he hA hR hF q
  refine Tuple_ (h env pos B A s _ E he hA hR hF fun vs cvs H₁ h₁ tk₁ p₁ v₁ R₁ F₁ t₁ => ?_)
  refine wpAny_newObj_type ?_ (by show cvs.toArray.size ≤ sizeLine; rw [List.size_toArray, ← v₁.length]; exact p₁.1)
  have x := Ext.push h₁ { cls := .type "tuple", data := .seq cvs.toArray }
  exact q (.tup vs) _ H₁ _ _ p₁.2 (.tup (IsTup.new h₁ cvs.toArray) (by simpa using v₁.mono x.tk)) (R₁.ext x) (F₁.ext R₁ x) (t₁.trans x.tk)

theorem Ev_List {es pos} {Φ : V → AH → Prop} (h : Es X sc n es ρ H fun vs H₁ => vs.length ≤ sizeLine ∧ ∀ a, H₁ a = none → Φ (.ref a) (upd H₁ a vs)) : Ev X sc n (.List es pos) ρ H Φ := by
  intro env B A s Q E he hA hR hF q
  refine List_ (h env pos B A s _ E he hA hR hF fun vs cvs H₁ h₁ tk₁ p₁ v₁ R₁ F₁ t₁ => ?_)
  refine wpAny_newObj_type ?_ (by show cvs.toArray.size ≤ sizeLine; rw [List.size_toArray, ← v₁.length]; exact p₁.1)
  have x := Ext.push h₁ { cls := .type "list", data := .seq cvs.toArray }
  obtain ⟨hn, R⟩ := R₁.newList (xs := cvs.toArray) (vs := vs) (by simpa using v₁)
  exact q (.ref h₁.objs.size) _ _ _ _ (p₁.2 _ hn) (.ref _) R (F₁.ext R₁ x) (t₁.trans x.tk)

/-! ### items -/
def itm (value slice : Expr) : List Value → Sem Value
  | [o, i] => subscriptTail value slice o i
  | _ => unsupported "itm"

theorem Ev_Subscript {value slice pos} {Φ : V → AH → Prop} (h : Ev X sc n value ρ H fun a H₁ => Ev X sc n slice ρ H₁ fun b H₂ => Op X n (itm value slice) [a, b] H₂ Φ) :
    Ev X sc n (.Subscript value slice pos) ρ H Φ := by
  intro env B A s Q E he hA hR hF k
  refine Subscript_ (h env B A s _ E he hA hR hF fun a ca H₁ h₁ tk₁ p₁ v₁ R₁ F₁ t₁ => ?_)
  refine p₁ env B A _ _ E he hA R₁ F₁ fun b cb H₂ h₂ tk₂ p₂ v₂ R₂ F₂ t₂ => ?_
  exact p₂.use (t := itm value slice) hA R₂ F₂ (.cons (v₁.mono t₂) (.cons v₂ .nil)) fun v cv H' h' tk p q R F t => k v cv H' h' tk p q R F (t₁.trans (t₂.trans t))

theorem HR.lst {X B H h a vs} (r : HR X B H h) (e : H a = some vs) : ∃ xs n, IsL h a xs n ∧ VRs h vs xs.toList := (r.cell a vs e).2

theorem op_item_list {value slice a vs i v} {Φ : V → AH → Prop} (hl : H a = some vs) (h0 : 0 ≤ i) (hi : i < 2 ^ 63) (hv : vs[i.toNat]? = some v) (h : Φ v H)
    (hs : ∀ u, subscripted slice false (.ref a) (.int i u) = operate [.ref a, .int i u] (getItem (.ref a) (.int i u)) := by intro u; with_unfolding_all rfl) :
    Op X n (itm value slice) [.ref a, .int i] H Φ := by
  intro B A s Q E cvs hA hR hv' k
  obtain ⟨_, rfl⟩ := hv'.refint
  obtain ⟨xs, m, hL, hx⟩ := hR.lst hl
  obtain ⟨c, hc, q⟩ := hx.get hv
  exact tail_any hL.isList.typeIs slot_list_getitem.lookup (wpAny_getItem_list hL.isList h0 hi (by simpa using hc) (k v c H s.heap s.toks h q hR (TK.refl _))) (hs _)

theorem op_item_tup {value slice vs i v} {Φ : V → AH → Prop} (h0 : 0 ≤ i) (hi : i < 2 ^ 63) (hv : vs[i.toNat]? = some v) (h : Φ v H)
    (hs : ∀ a u, subscripted slice false (.ref a) (.int i u) = operate [.ref a, .int i u] (getItem (.ref a) (.int i u)) := by intro a u; with_unfolding_all rfl) :
    Op X n (itm value slice) [.tup vs, .int i] H Φ := by
  intro B A s Q E cvs hA hR hv' k
  obtain ⟨_, _, rfl, ha, hb⟩ := hv'.two
  obtain ⟨_, rfl⟩ := hb.intInv
  obtain ⟨ar, xs, rfl, ht, hx⟩ := ha.tupInv
  obtain ⟨c, hc, q⟩ := hx.get hv
  have hlt : i.toNat < xs.toList.length := (List.getElem?_eq_some_iff.mp hc).1
  refine tail_any ht.typeIs slot_tuple_getitem.lookup (getItem_tuple (j := i.toNat) ht (by omega) hi (seqIndex_of h0 (by simp at hlt; omega)) (by simpa using hc) (k v c H s.heap s.toks h q hR (TK.refl _))) (hs _ _)

/-! ### ints -/
section
variable {a b : Int} {Φ : V → AH → Prop}
theorem op_add (h : Φ (.int (a + b)) H) : Op X n (bin .Add) [.int a, .int b] H Φ := by
  intro B A s Q E cvs hA hR hv k
  obtain ⟨_, _, rfl⟩ := hv.int2
  exact add_int (k _ _ H s.heap _ h (.int _ _) hR (TK.refl _))
theorem op_sub (h : Φ (.int (a - b)) H) : Op X n (bin .Sub) [.int a, .int b] H Φ := by
  intro B A s Q E cvs hA hR hv k
  obtain ⟨_, _, rfl⟩ := hv.int2
  exact sub_int (k _ _ H s.heap _ h (.int _ _) hR (TK.refl _))
theorem op_mul (hm : IntMulOk a b) (h : Φ (.int (a * b)) H) : Op X n (bin .Mult) [.int a, .int b] H Φ := by
  intro B A s Q E cvs hA hR hv k
  obtain ⟨_, _, rfl⟩ := hv.int2
  exact mul_int (k _ _ H s.heap _ h (.int _ _) hR (TK.refl _)) hm
theorem op_mod (hb : b ≠ 0) (h : Φ (.int (a.fmod b)) H) : Op X n (bin .Mod) [.int a, .int b] H Φ := by
  intro B A s Q E cvs hA hR hv k
  obtain ⟨_, _, rfl⟩ := hv.int2
  exact mod_int' hb (k _ _ H s.heap _ h (.int _ _) hR (TK.refl _))
theorem op_div (hb : b ≠ 0) (hp : b.natAbs.log2 < 9000) (h : Φ (.int (a.fdiv b)) H) : Op X n (bin .FloorDiv) [.int a, .int b] H Φ := by
  intro B A s Q E cvs hA hR hv k
  obtain ⟨_, _, rfl⟩ := hv.int2
  exact floordiv_int hb (k _ _ H s.heap _ h (.int _ _) hR (TK.refl _)) (.inl (PyProof.noPylong_of_log2 hp))
theorem op_pow (hb : 0 ≤ b) (hp : (Builtin.Int.intBits a : Int) * b ≤ 2 ^ 27) (h : Φ (.int (a ^ b.toNat)) H) : Op X n (bin .Pow) [.int a, .int b] H Φ := by
  intro B A s Q E cvs hA hR hv k
  obtain ⟨_, _, rfl⟩ := hv.int2
  exact pow_int hb hp (k _ _ H s.heap _ h (.int _ _) hR (TK.refl _))
theorem op_neg (h : Φ (.int (-a)) H) : Op X n (una .USub) [.int a] H Φ := by
  intro B A s Q E cvs hA hR hv k
  obtain ⟨_, rfl⟩ := hv.int1
  exact neg_int (k _ _ H s.heap _ h (.int _ _) hR (TK.refl _))
theorem op_lt (h : Φ (.bool (decide (a < b))) H) : Op X n (cmp .Lt) [.int a, .int b] H Φ := by
  intro B A s Q E cvs hA hR hv k
  obtain ⟨_, _, rfl⟩ := hv.int2
  exact lt_int (k _ _ H s.heap s.toks h (.bool _) hR (TK.refl _))
theorem op_gt (h : Φ (.bool (decide (b < a))) H) : Op X n (cmp .Gt) [.int a, .int b] H Φ := by
  intro B A s Q E cvs hA hR hv k
  obtain ⟨_, _, rfl⟩ := hv.int2
  exact gt_int (k _ _ H s.heap s.toks h (.bool _) hR (TK.refl _))
theorem op_ge (h : Φ (.bool (decide (b ≤ a))) H) : Op X n (cmp .GtE) [.int a, .int b] H Φ := by
  intro B A s Q E cvs hA hR hv k
  obtain ⟨_, _, rfl⟩ := hv.int2
  exact ge_int (k _ _ H s.heap s.toks h (.bool _) hR (TK.refl _))
theorem op_eq_int (h : Φ (.bool (a == b)) H) : Op X n (cmp .Eq) [.int a, .int b] H Φ := by
  intro B A s Q E cvs hA hR hv k
  obtain ⟨_, _, rfl⟩ := hv.int2
  exact eq_int (k _ _ H s.heap s.toks h (.bool _) hR (TK.refl _))
theorem op_ne_int (h : Φ (.bool (a != b)) H) : Op X n (cmp .NotEq) [.int a, .int b] H Φ := by
  intro B A s Q E cvs hA hR hv k
  obtain ⟨_, _, rfl⟩ := hv.int2
  exact ne_int (k _ _ H s.heap s.toks h (.bool _) hR (TK.refl _))
theorem op_is_tup_none {vs : List V} (h : Φ (.bool false) H) : Op X n (cmp .Is) [.tup vs, .none] H Φ := by
  intro B A s Q E cvs hA hR hv k
  obtain ⟨_, _, rfl, ha, hb⟩ := hv.two
  cases ha; cases hb
  exact is_ref_none (k _ _ H s.heap s.toks h (.bool _) hR (TK.refl _))
end

/-! ### calls -/
theorem bltCall {id : String} {env : Env} {pos : Pos} {args : List Expr} {M : Model} {A : Around} {E : Value → Shared → Prop} {s : Shared} {Q : Value → Shared → Prop} {e : Expr} {rest : List Expr}
    (ha : args = e :: rest) (hs : starEach (e :: rest) env = (false, eval e env) :: starEach rest env) (hp : (starEach rest env).any (·.1) = false)
    (h : wpAny M A (spliced (backTo pos (starEach args env))) (fun vs s' => wpAny M A (call (.builtin id) vs) Q E s') E s) :
    wpAny M A (callWith pos (.builtin id) [] (backTo pos (starEach args env)) []) Q E s := by
  subst ha
  have e1 : (backTo pos (starEach (e :: rest) env)).any (·.1) = false := by
    rw [hs]; show (false || (backTo pos (starEach rest env)).any (·.1)) = false
    rw [Bool.false_or, ← hp]; simp [backTo, List.any_map, Function.comp_def]
  refine callWith_builtin e1 ?_
  rw [hs] at h ⊢
  exact evalArgs_plain h
theorem typCall {T : String} {env : Env} {pos : Pos} {args : List Expr} {M : Model} {A : Around} {E : Value → Shared → Prop} {s : Shared} {Q : Value → Shared → Prop} {e : Expr} {rest : List Expr}
    (ha : args = e :: rest) (hs : starEach (e :: rest) env = (false, eval e env) :: starEach rest env) (hp : (starEach rest env).any (·.1) = false)
    (h : wpAny M A (spliced (backTo pos (starEach args env))) (fun vs s' => wpAny M A (call (.type T) vs) Q E s') E s) :
    wpAny M A (callWith pos (.type T) [] (backTo pos (starEach args env)) []) Q E s := by
  subst ha
  have e1 : (backTo pos (starEach (e :: rest) env)).any (·.1) = false := by
    rw [hs]; show (false || (backTo pos (starEach rest env)).any (·.1)) = false
    rw [Bool.false_or, ← hp]; simp [backTo, List.any_map, Function.comp_def]
  refine PySem.callWith_type e1 ?_
  rw [hs] at h ⊢
  exact evalArgs_plain h
theorem defCall {f : Addr} {o : Obj} {fd : FuncData} {env : Env} {pos : Pos} {args : List Expr} {M : Model} {A : Around} {E : Value → Shared → Prop} {s : Shared} {Q : Value → Shared → Prop} {e : Expr} {rest : List Expr}
    (ha : args = e :: rest) (hs : starEach (e :: rest) env = (false, eval e env) :: starEach rest env) (hd : o.data = .func fd)
    (h : wpAny M A (spliced (backTo pos (starEach args env))) (fun vs s' => s'.heap.get? f = some o ∧ wpAny M A (call (.ref f) vs) Q E s') E s) :
    wpAny M A (callWith pos (.ref f) [] (backTo pos (starEach args env)) []) Q E s := by
  subst ha
  refine callWith_function (o := o) (fd := fd) ?_
  rw [hs] at h ⊢
  exact evalArgs_plain (wpAny_mono h (fun vs s' h' => ⟨⟨h'.1, hd⟩, h'.2⟩) fun _ _ x => x)

/-- what may be called: a def of the text, a built-in function, a type -/
def Callable (X : X0) (f : Value) : Prop :=
  (∃ id, f = .builtin id) ∨ (∃ T, f = .type T) ∨ (∃ a o fd, f = .ref a ∧ X.h₀.get? a = some o ∧ o.data = .func fd)

theorem Ev_Call {func e rest pos} {Φ : V → AH → Prop}
    (h : Ev X sc n func ρ H fun fv H₁ => ∃ f, fv = .raw f ∧ Callable X f ∧ Es X sc n (e :: rest) ρ H₁ fun vs H₂ => Calls X n f vs H₂ Φ)
    (hs : ∀ env, starEach (e :: rest) env = (false, eval e env) :: starEach rest env := by intro _; rfl) (hp : ∀ env, (starEach rest env).any (·.1) = false := by intro _; rfl)
    (hc : ∀ env, eval (.Call func (e :: rest) [] pos) env = (do callWith pos (← eval func env) [] (backTo pos (starEach (e :: rest) env)) (backToKw pos (keywordEach [] env))) := by intro _; rfl) :
    Ev X sc n (.Call func (e :: rest) [] pos) ρ H Φ := by
  intro env B A s Q E he hA hR hF k
  rw [hc]
  refine wpAny_bind (h env B A s _ E he hA hR hF fun fv cf H₁ h₁ tk₁ p₁ v₁ R₁ F₁ t₁ => ?_)
  obtain ⟨f, rfl, hcall, p₁⟩ := p₁
  have hcf : cf = f := v₁.rawInv
  subst hcf
  have fin : wpAny (model X.prog X.w) A (spliced (backTo pos (starEach (e :: rest) env))) (fun vs s' => Ext X.h₀ s'.heap ∧ wpAny (model X.prog X.w) A (call cf vs) Q E s') E { s with heap := h₁, toks := tk₁ } :=
    p₁ env pos B A _ _ E he hA R₁ F₁ fun vs cvs H₂ h₂ tk₂ p₂ v₂ R₂ F₂ t₂ => ⟨R₂.ext₀, p₂.use (t := fun cvs => call cf cvs) hA R₂ F₂ v₂ fun v cv H' h' tk p q R F t => k v cv H' h' tk p q R F (t₁.trans (t₂.trans t))⟩
  rcases hcall with ⟨id, rfl⟩ | ⟨T, rfl⟩ | ⟨a, o, fd, rfl, ho, hd⟩
  · exact bltCall rfl (hs env) (hp env) (wpAny_mono fin (fun _ _ x => x.2) fun _ _ x => x)
  · exact typCall rfl (hs env) (hp env) (wpAny_mono fin (fun _ _ x => x.2) fun _ _ x => x)
  · exact defCall rfl (hs env) hd (wpAny_mono fin (fun _ _ x => ⟨x.1 _ _ ho, x.2⟩) fun _ _ x => x)
def put {K β : Type} [DecidableEq K] (f : K → Option β) (k : K) (v : β) : K → Option β := fun y => if y = k then some v else f y
theorem put_same {K β : Type} [DecidableEq K] {f : K → Option β} {k : K} {v : β} : put f k v k = some v := by simp [put]
theorem put_ne {K β : Type} [DecidableEq K] {f : K → Option β} {k k' : K} {v : β} (h : k' ≠ k) : put f k v k' = f k' := by simp [put, h]
theorem put_skip {K β : Type} [DecidableEq K] {f : K → Option β} {k k' : K} {v w : β} (h : k' ≠ k) (e : f k' = some w) : put f k v k' = some w := by rw [put_ne h, e]

/-- an object that is no list, dict, cell, tuple -/
structure Odd (h : Heap) (a : Addr) : Prop where
  at_ : ∃ o fs, h.get? a = some o ∧ o.data = .fields fs

theorem odd_not_list {h : Heap} {a : Addr} {xs : Array Value} {n : Nat} (x : Odd h a) (y : IsL h a xs n) : False := by
  obtain ⟨o, fs, ho, hd⟩ := x.at_
  rw [show h.get? a = _ from y] at ho; cases ho; cases hd
theorem odd_not_ns {h : Heap} {a : Addr} {m : PySem.Str → Option Value} (x : Odd h a) (y : h.Ns a m) : False := by
  obtain ⟨o, fs, ho, hd⟩ := x.at_
  obtain ⟨o', es, ep, ho', hd', _⟩ := y
  rw [ho] at ho'; cases ho'; rw [hd] at hd'; cases hd'
theorem odd_not_cell {h : Heap} {a : Addr} {v : Option Value} (x : Odd h a) (y : h.IsCell a v) : False := by
  obtain ⟨o, fs, ho, hd⟩ := x.at_
  obtain ⟨o', ho', hd'⟩ := y
  rw [ho] at ho'; cases ho'; rw [hd] at hd'; cases hd'
theorem odd_not_tup {h : Heap} {a : Addr} {ys : Array Value} (x : Odd h a) (y : IsTup h a ys) : False := by
  obtain ⟨o, fs, ho, hd⟩ := x.at_
  obtain ⟨o', ho', _, n, hd'⟩ := y
  rw [ho] at ho'; cases ho'; rw [hd] at hd'; cases hd'

theorem HR.notOdd {X B H h a} (r : HR X B H h) (x : Odd h a) : H a = none := by
  cases q : H a with
  | none => rfl
  | some vs => obtain ⟨xs, n, hl, _⟩ := (r.cell a vs q).2; exact (odd_not_list x hl).elim

/-- frames moved -/
theorem FR.move {B env ρ h h'} (f : FR B env ρ h) (k1 : ∀ m, h.Ns env.locals m → h'.Ns env.locals m) (k2 : ∀ c v, h.IsCell c v → h'.IsCell c v) (t : TK h h') : FR B env ρ h' where
  ns := let ⟨m, hn, hm⟩ := f.ns; ⟨m, k1 m hn, fun x v hk hv => let ⟨cv, e, q⟩ := hm x v hk hv; ⟨cv, e, q.mono t⟩⟩
  fresh := f.fresh
  cell x v hk hv := let ⟨c, cv, hc, hi, q⟩ := f.cell x v hk hv; ⟨c, cv, hc, k2 _ _ hi, q.mono t⟩
  slot x hk := let ⟨c, o, hc, hi⟩ := f.slot x hk; ⟨c, o, hc, k2 _ _ hi⟩
  own := f.own
  apart := f.apart

/-- an odd object is changed or dropped -/
theorem HR.atOdd {X B H h h' a} (r : HR X B H h) (x : Odd h a) (hB : B a = none) (e : Heap.ExtBut a h h') : TK h h' ∧ HR X B H h' := by
  have t : TK h h' := TK.extBut e fun xs y => odd_not_tup x y
  refine ⟨t, r.ok, r.root, fun b o q => e b o (fun z => ?_) (r.keep b o q), fun b vs q => ?_⟩
  · subst z; rw [hB] at q; cases q
  · obtain ⟨hb, xs, n, hl, hv⟩ := r.cell b vs q
    exact ⟨hb, xs, n, e b _ (fun z => by subst z; exact odd_not_list x hl) hl, hv.mono t⟩
theorem FR.atOdd {B env ρ h h' a} (f : FR B env ρ h) (x : Odd h a) (e : Heap.ExtBut a h h') : FR B env ρ h' :=
  f.move (fun m hm => hm.extBut e fun z => by subst z; exact odd_not_ns x hm) (fun c v hc => by
    have hne : c ≠ a := fun z => by subst z; exact odd_not_cell x hc
    obtain ⟨o, ho, hd⟩ := hc
    exact ⟨o, e c o hne ho, hd⟩) (TK.extBut e fun xs y => odd_not_tup x y)

/-- an object put under protection, and out of it -/
theorem HR.guard {X B H h a o} (r : HR X B H h) (ho : h.get? a = some o) (hH : H a = none) : HR X (upd B a o) H h where
  ok := r.ok
  root b ob q := by
    by_cases hb : b = a
    · subst hb; rw [upd_same, ← ho]; exact r.keep _ _ (r.root _ _ q)
    · rw [upd_ne hb]; exact r.root b ob q
  keep b ob q := by
    by_cases hb : b = a
    · subst hb; rw [upd_same] at q; rw [ho]; exact q
    · rw [upd_ne hb] at q; exact r.keep b ob q
  cell b vs q := by
    obtain ⟨hb, w⟩ := r.cell b vs q
    refine ⟨?_, w⟩
    rw [upd_ne]; exact hb
    intro z; subst z; rw [hH] at q; cases q
theorem FR.guard {B env ρ h a o} (f : FR B env ρ h) (hl : env.locals ≠ a) (hc : ∀ v, ¬ h.IsCell a v) : FR (upd B a o) env ρ h where
  ns := f.ns
  fresh := by rw [upd_ne hl]; exact f.fresh
  cell := f.cell
  slot := f.slot
  own hf x c hx e := by
    obtain ⟨c', ov, hc', hi⟩ := f.slot x hx
    rw [e] at hc'; cases hc'
    rw [upd_ne (fun z => by subst z; exact hc _ hi)]; exact f.own hf x c hx e
  apart := f.apart
theorem HR.unguard {X B H h a o} (r : HR X (upd B a o) H h) (hB : B a = none) (hroot : ∀ b ob, X.h₀.get? b = some ob → B b = some ob) : HR X B H h where
  ok := r.ok
  root := hroot
  keep b ob q := r.keep b ob (by rw [upd_ne (fun z => by subst z; rw [hB] at q; cases q)]; exact q)
  cell b vs q := by
    obtain ⟨hb, w⟩ := r.cell b vs q
    refine ⟨?_, w⟩
    rw [upd_ne] at hb; exact hb
    intro z; subst z; rw [upd_same] at hb; cases hb
theorem FR.unguard {B env ρ h a o} (f : FR (upd B a o) env ρ h) (hB : B a = none) : FR B env ρ h where
  ns := f.ns
  fresh := by
    have := f.fresh
    by_cases z : env.locals = a
    · rw [z]; exact hB
    · rw [upd_ne z] at this; exact this
  cell := f.cell
  slot := f.slot
  own hf x c hx e := by
    have := f.own hf x c hx e
    by_cases z : c = a
    · rw [z]; exact hB
    · rw [upd_ne z] at this; exact this
  apart := f.apart

/-- what is asked behind a statement: the rest of its row -/
abbrev Nx (X : X0) (sc : Scope) (n : Nat) (rest : List Stmt) (Φ : F → AL → AH → Prop) : F → AL → AH → Prop := fun f ρ' H' => match f with | .next => Sx X sc n rest ρ' H' Φ | f => Φ f ρ' H'

section
variable {X : X0} {sc : Scope} {n : Nat} {ρ : AL} {H : AH}

def isOwn (sc : Scope) (x : PySem.Str) : Bool := match sc.names.lookup x with
  | some .local | some .cell => true
  | _ => false

/-- a name of the frame's is written -/
theorem store {env : Env} {B : Addr → Option Obj} {A : Around} {s : Shared} {Q : Unit → Shared → Prop} {E : Value → Shared → Prop} {x : PySem.Str} {v : V} {cv : Value} (he : EnvOk sc env) (hf : env.func ≠ none ∨ sc.names.lookup x = some .local)
    (hx : isOwn sc x = true) (r : HR X B H s.heap) (f : FR B env ρ s.heap) (hv : VR s.heap v cv)
    (k : ∀ h' tk, HR X B H h' → FR B env (put ρ x v) h' → TK s.heap h' → (sc.names.lookup x = some .local ∧ Heap.ExtBut env.locals s.heap h') ∨ sc.names.lookup x = some .cell → Q () { s with heap := h', toks := tk }) :
    wpAny (model X.prog X.w) A (storeName env x cv) Q E s := by
  have hkind : env.scope.kind = .function := he.scope ▸ he.kind
  have hko : ∀ y, env.kindOf y = sc.names.lookup y := fun y => by rw [Env.kindOf, he.scope]
  unfold isOwn at hx
  split at hx
  · rename_i e
    obtain ⟨m, hm, hmv⟩ := f.ns
    refine wpAny_storeName_local ((hko x).trans e) hm (fun h' hn' hs => ?_) (by rw [hkind]; rfl)
    have t : TK s.heap h' := TK.sameBut hs fun xs y => tup_not_ns y hm
    refine k h' _ ⟨r.ok, r.root, fun b o q => (hs.2 b fun z => ?_).trans (r.keep b o q), fun b vs q => ?_⟩ ⟨⟨_, hn', fun y w hy hw => ?_⟩, f.fresh, fun y w hy hw => ?_, fun y hy => ?_, f.own, f.apart⟩ t (.inl ⟨e, hs.extBut⟩)
    · subst z; rw [f.fresh] at q; cases q
    · obtain ⟨hb, xs, j, hl, hw⟩ := r.cell b vs q
      exact ⟨hb, xs, j, (hs.2 b fun z => by subst z; exact ns_not_list hm hl).trans hl, hw.mono t⟩
    · unfold put at hw
      by_cases z : y = x
      · subst z; rw [if_pos rfl] at hw; cases hw
        exact ⟨cv, by simp, hv.mono t⟩
      · rw [if_neg z] at hw
        obtain ⟨cw, e1, q⟩ := hmv y w hy hw
        exact ⟨cw, by simp [z, e1], q.mono t⟩
    · have z : y ≠ x := fun z => by subst z; rcases hy with hy | hy <;> · rw [hko, e] at hy; cases hy
      unfold put at hw
      rw [if_neg z] at hw
      obtain ⟨c, cw, hc, hi, q⟩ := f.cell y w hy hw
      exact ⟨c, cw, hc, hi.sameBut hs fun z => by subst z; exact cell_not_ns hi hm, q.mono t⟩
    · obtain ⟨c, o, hc, hi⟩ := f.slot y hy
      exact ⟨c, o, hc, hi.sameBut hs fun z => by subst z; exact cell_not_ns hi hm⟩
  · rename_i e
    have hf : env.func ≠ none := hf.elim id fun q => by rw [e] at q; cases q
    obtain ⟨c, o, hc, hi⟩ := f.slot x ((hko x).trans e)
    refine wpAny_storeName_cell hkind ((hko x).trans e) hc hi fun h' hi' hs => ?_
    have t : TK s.heap h' := TK.sameBut hs fun xs y => tup_not_cell y hi
    have hB := f.own hf x c ((hko x).trans e) hc
    obtain ⟨m, hm, hmv⟩ := f.ns
    refine k h' s.toks ⟨r.ok, r.root, fun b o q => (hs.2 b fun z => ?_).trans (r.keep b o q), fun b vs q => ?_⟩ ⟨⟨m, hm.sameBut hs fun z => ?_, fun y w hy hw => ?_⟩, f.fresh, fun y w hy hw => ?_, fun y hy => ?_, f.own, f.apart⟩ t (.inr e)
    · subst z; rw [hB] at q; cases q
    · obtain ⟨hb, xs, j, hl, hw⟩ := r.cell b vs q
      exact ⟨hb, xs, j, (hs.2 b fun z => by subst z; exact cell_not_list hi hl).trans hl, hw.mono t⟩
    · exact cell_not_ns hi (z ▸ hm)
    · have z : y ≠ x := fun z => by subst z; rw [hko, e] at hy; cases hy
      unfold put at hw
      rw [if_neg z] at hw
      obtain ⟨cw, e1, q⟩ := hmv y w hy hw
      exact ⟨cw, e1, q.mono t⟩
    · unfold put at hw
      by_cases z : y = x
      · subst z; rw [if_pos rfl] at hw; cases hw
        exact ⟨c, cv, hc, hi', hv.mono t⟩
      · rw [if_neg z] at hw
        obtain ⟨c', cw, hc', hi₂, q⟩ := f.cell y w hy hw
        exact ⟨c', cw, hc', hi₂.sameBut hs fun q' => z (name_of_addr (f.apart hf) (mem_of_lookup hc') (q' ▸ mem_of_lookup hc)), q.mono t⟩
    · by_cases z : y = x
      · subst z; exact ⟨c, _, hc, hi'⟩
      · obtain ⟨c', o', hc', hi₂⟩ := f.slot y hy
        exact ⟨c', o', hc', hi₂.sameBut hs fun q' => z (name_of_addr (f.apart hf) (mem_of_lookup hc') (q' ▸ mem_of_lookup hc))⟩
  · cases hx

/-! ### statements -/
theorem Sx_nil {Φ : F → AL → AH → Prop} (h : Φ .next ρ H) : Sx X sc n [] ρ H Φ :=
  fun _ _ _ s _ _ _ _ _ hR hF k => wpAny_execs_nil (k .next _ ρ H s.heap s.toks h .next hR hF (TK.refl _))

theorem Sx_cons {st rest} {Φ : F → AL → AH → Prop} (h : St X sc n st ρ H (Nx X sc n rest Φ)) : Sx X sc n (st :: rest) ρ H Φ := by
  intro env B A s Q E he hf hA hR hF k
  refine wpAny_execs_cons (h env B A s _ E he hf hA hR hF fun f cf ρ' H' h' tk p q R F' t => ?_)
  cases q with
  | next => exact p env B A _ _ E he hf hA R F' fun f cf ρ₂ H₂ h₂ tk₂ p₂ q₂ R₂ F₂ t₂ => k f cf ρ₂ H₂ h₂ tk₂ p₂ q₂ R₂ F₂ (t.trans t₂)
  | brk => exact k _ _ ρ' H' h' tk p .brk R F' t
  | cont => exact k _ _ ρ' H' h' tk p .cont R F' t
  | ret hv => exact k _ _ ρ' H' h' tk p (.ret hv) R F' t

theorem Sx_mono {ss} {Φ Ψ : F → AL → AH → Prop} (h : Sx X sc n ss ρ H Φ) (i : ∀ f ρ' H', Φ f ρ' H' → Ψ f ρ' H') : Sx X sc n ss ρ H Ψ :=
  fun env B A s Q E he hf hA hR hF k => h env B A s Q E he hf hA hR hF fun f cf ρ' H' h' tk p => k f cf ρ' H' h' tk (i f ρ' H' p)
theorem St_mono {st} {Φ Ψ : F → AL → AH → Prop} (h : St X sc n st ρ H Φ) (i : ∀ f ρ' H', Φ f ρ' H' → Ψ f ρ' H') : St X sc n st ρ H Ψ :=
  fun env B A s Q E he hf hA hR hF k => h env B A s Q E he hf hA hR hF fun f cf ρ' H' h' tk p => k f cf ρ' H' h' tk (i f ρ' H' p)

theorem St_Continue {pos} {Φ : F → AL → AH → Prop} (h : Φ .cont ρ H) : St X sc n (.Continue pos) ρ H Φ :=
  fun _ _ _ s _ _ _ _ _ hR hF k => wpAny_bind (wpAny_standAt (wpAny_pure (k .cont _ ρ H s.heap s.toks h .cont hR hF (TK.refl _))))
theorem St_Return {e pos} {Φ : F → AL → AH → Prop} (h : Ev X sc n e ρ H fun v H' => Φ (.ret v) ρ H') : St X sc n (.Return (some e) pos) ρ H Φ :=
  fun env B A s _ E he _ hA hR hF k => wpAny_Return_some (h env B A s _ E he hA hR hF fun v cv H' h' tk p q R F' t => k (.ret v) (.ret cv) ρ H' h' tk p (.ret q) R F' t)
theorem St_If {t b o pos} {Φ : F → AL → AH → Prop} (h : Tv X sc n t ρ H fun c H₁ => if c = true then Sx X sc n b ρ H₁ Φ else Sx X sc n o ρ H₁ Φ) : St X sc n (.If t b o pos) ρ H Φ := by
  intro env B A s Q E he hf hA hR hF k
  refine wpAny_If (h env B A s _ E he hA hR hF fun c H₁ h₁ tk₁ p₁ R₁ F₁ t₁ => ?_)
  cases c with
  | true => exact p₁ env B A _ _ E he hf hA R₁ F₁ fun f cf ρ₂ H₂ h₂ tk₂ p₂ q₂ R₂ F₂ t₂ => k f cf ρ₂ H₂ h₂ tk₂ p₂ q₂ R₂ F₂ (t₁.trans t₂)
  | false => exact p₁ env B A _ _ E he hf hA R₁ F₁ fun f cf ρ₂ H₂ h₂ tk₂ p₂ q₂ R₂ F₂ t₂ => k f cf ρ₂ H₂ h₂ tk₂ p₂ q₂ R₂ F₂ (t₁.trans t₂)

theorem St_Expr {e pos} {Φ : F → AL → AH → Prop} (h : Ev X sc n e ρ H fun v H' => v = .none ∧ Φ .next ρ H')
    (hi : ∀ env, EnvOk sc env → interactive env = false := by walk_at "env")
    (hs : ∀ env, EnvOk sc env → swapsWith e none pos.line env = pure false := by walk_at "env") : St X sc n (.Expr e pos) ρ H Φ := by
  intro env B A s Q E he hf hA hR hF k
  refine wpAny_Expr (h env B A s _ E he hA hR hF fun v cv H' h' tk p q R F' t => ?_) (hi env he) (hs env he)
  obtain ⟨rfl, p⟩ := p
  cases q
  exact k .next _ ρ H' h' tk p .next R F' t

/-- targets -/
def As (X : X0) (sc : Scope) (n : Nat) (t : Expr) (v : V) (ρ : AL) (H : AH) (Φ : AL → AH → Prop) : Prop :=
  ∀ (env : Env) (B : Addr → Option Obj) (A : Around) (s : Shared) (Q : Unit → Shared → Prop) (E : Value → Shared → Prop) (cv : Value), EnvOk sc env → env.func ≠ none → Room n A → HR X B H s.heap → FR B env ρ s.heap → VR s.heap v cv →
    (∀ ρ' H' h' tk, Φ ρ' H' → HR X B H' h' → FR B env ρ' h' → TK s.heap h' → Q () { s with heap := h', toks := tk }) →
    wpAny (model X.prog X.w) A (assign t env cv) Q E s

theorem As_Name {x pos v} {Φ : AL → AH → Prop} (hx : isOwn sc x = true) (h : Φ (put ρ x v) H) : As X sc n (.Name x pos) v ρ H Φ :=
  fun env B A s Q E cv he hf _ hR hF hv k => PyProof.Rows.assign_Name (store he (.inl hf) hx hR hF hv fun h' tk R F' t _ => k _ H h' tk h R F' t)

theorem wpAny_setItem_lst {prog : Program} {w : World} {A : Around} {E : Value → Shared → Prop} {s : Shared} {l : Addr} {items : Array Value} {m : Nat} {k : Int} {t : Tok} {v : Value} {Q : Unit → Shared → Prop} (hl : IsL s.heap l items m)
    (h0 : 0 ≤ k) (hfit : k < 2 ^ 63) (hn : k < items.size)
    (hQ : ∀ h', IsL h' l (items.setIfInBounds k.toNat v) m → Heap.SameBut l s.heap h' → Q () { s with heap := h' }) :
    wpAny (model prog w) A (setItem (.ref l) (.int k t) v) Q E s := by
  have ho : s.heap.get? l = some { cls := .type "list", dict := none, data := .seq items m, slots := #[] } := hl
  unfold setItem
  try with_reducible refine wpAny_holding ?_
  first | refine wpAny_bind (wpAny_pure ?_) | skip
  refine wpAny_bind (wpAny_sequenceKey hl.isList.typeIs (by decide) ?_)
  refine wpAny_bind (wpAny_callSpecial?_slot (name := PySem.Str.ofString "__setitem__") hl.isList.typeIs slot_list_setitem
    (wpAny_call_entry slot_list_setitem hl.isList.typeIs entry_list_setitem ?_ (args_list_setitem _ _ _)))
  show wpAny _ _ (Builtin.List.listSubscript? (.int k t) >>= _) _ _ s
  refine wpAny_bind (wpAny_listSubscript_int (fitsIndex_of h0 hfit) ?_)
  clear hfit
  obtain ⟨j, rfl⟩ := Int.eq_ofNat_of_zero_le h0
  have hj : j < items.size := by omega
  have hx' : items[j]? = some items[j] := Array.getElem?_eq_getElem hj
  show wpAny _ _ ((seqItemAt l j >>= fun r => pure (r.map (j, ·))) >>= _) _ _ s
  refine wpAny_bind (wpAny_bind (wpAny_seqItemAt ho rfl (wpAny_pure ?_)))
  rw [hx']
  show wpAny _ _ (setSeqItemAt l j v >>= _) _ _ s
  have hfin : IsL (s.heap.update l (Obj.mapSeq (·.setIfInBounds j v))) l (items.setIfInBounds j v) m := by
    have := IsL.update hl (·.setIfInBounds j v)
    simpa using this
  refine wpAny_bind (wpAny_setSeqItemAt ho rfl ?_)
  first
    | exact wpAny_bind (wpAny_pure (wpAny_pure ⟨.none, rfl, wpAny_pure (hQ _ hfin (Heap.SameBut.update ..))⟩))
    | exact wpAny_pure ⟨.none, rfl, wpAny_pure (hQ _ hfin (Heap.SameBut.update ..))⟩

theorem VRs.setA {h : Heap} {y : V} {c : Value} {v : List V} {xs : Array Value} (hy : VR h y c) (r : VRs h v xs.toList) (i : Nat) : VRs h (v.set i y) (xs.setIfInBounds i c).toList := by
  rw [Array.toList_setIfInBounds]; exact VRs.set hy i r

theorem assign_item (o i : Expr) (pos : Pos) (env : Env) (v : Value) : assign (.Subscript o i pos) env v = (do
    let ov ← holding [v] (eval o env)
    let iv ← holding [v, ov] (eval i env)
    standAt pos
    holding [v, ov, iv] (setItem ov iv v)
    release (match i with | .Slice _ _ none _ => [iv, v, ov] | _ => [v, ov, iv]) []) := rfl
theorem As_Subscript {o i pos v} {Φ : AL → AH → Prop}
    (h : Ev X sc n o ρ H fun a H₁ => Ev X sc n i ρ H₁ fun b H₂ => ∃ l k vs, a = .ref l ∧ b = .int k ∧ H₂ l = some vs ∧ 0 ≤ k ∧ k < vs.length ∧ k < 2 ^ 63 ∧ Φ ρ (upd H₂ l (vs.set k.toNat v))) :
    As X sc n (.Subscript o i pos) v ρ H Φ := by
  intro env B A s Q E cv he hf hA hR hF hv k
  rw [assign_item]
  refine wpAny_bind (wpAny_holding (h env B A s _ E he hA hR hF fun a ca H₁ h₁ tk₁ p₁ v₁ R₁ F₁ t₁ => ?_))
  refine wpAny_bind (wpAny_holding (p₁ env B A _ _ E he hA R₁ F₁ fun b cb H₂ h₂ tk₂ p₂ v₂ R₂ F₂ t₂ => ?_))
  obtain ⟨l, j, vs, rfl, rfl, hl, h0, hj, h63, p⟩ := p₂
  obtain rfl := v₁.refInv
  obtain ⟨_, rfl⟩ := v₂.intInv
  obtain ⟨xs, m, hL, hx⟩ := R₂.lst hl
  refine wpAny_bind (wpAny_standAt (wpAny_bind (wpAny_holding ?_)))
  refine wpAny_setItem_lst hL h0 h63 (by have := hx.length; simp at this; omega) fun h' hL' hs => ?_
  obtain ⟨t, R⟩ := R₂.setList hl hL' hs (VRs.setA (hv.mono (t₁.trans t₂)) hx _)
  have F' := F₂.setList R₂ hl hs t
  have fin : ∀ vs ks : List Value, wpAny (model X.prog X.w) A (release vs ks) Q E { s with heap := h', toks := tk₂ } := fun vs ks Γ p' hΓ => by
    rw [Sem.wp_release]; exact k _ _ h' tk₂ p R F' (t₁.trans (t₂.trans t))
  exact fin _ _

theorem Ext.of {h h' : Heap} (e : Heap.ExtBut h.objs.size h h') : Ext h h' := fun b o q => e b o (Nat.ne_of_lt (Heap.lt_size q)) q

theorem As_Tuple2 {t₁ t₂ : Expr} {k pos v₁ v₂} {Φ : AL → AH → Prop} (h : As X sc n t₁ v₁ ρ H fun ρ₁ H₁ => As X sc n t₂ v₂ ρ₁ H₁ Φ)
    (hs : ∀ env, assignEach [t₁, t₂] env = [(false, assign t₁ env), (false, assign t₂ env)] := by intro _; rfl) : As X sc n (.Tuple [t₁, t₂] k pos) (.tup [v₁, v₂]) ρ H Φ := by
  intro env B A s Q E cv he hf hA hR hF hv q
  obtain ⟨a, xs, rfl, ht, hx⟩ := hv.tupInv
  obtain ⟨x, y, hxy, hx, hy⟩ := hx.two
  have hsz : xs.size = 2 := by rw [← Array.length_toList, hxy]; rfl
  refine assign_Tuple_tuple hA.1 ht (by rw [hs, hsz]; rfl) (by rw [hs]; rfl) fun h' e => ?_
  have x' := Ext.of e
  rw [hs, hxy]
  refine assignInOrder_cons (h env B A _ _ E x he hf hA (hR.ext x') (hF.ext hR x') (hx.mono x'.tk) fun ρ₁ H₁ h₁ tk₁ p₁ R₁ F₁ t₁ => ?_)
  refine assignInOrder_cons (p₁ env B A _ _ E y he hf hA R₁ F₁ (hy.mono (x'.tk.trans t₁)) fun ρ₂ H₂ h₂ tk₂ p₂ R₂ F₂ t₂ => ?_)
  exact assignInOrder_nil (q ρ₂ H₂ h₂ tk₂ p₂ R₂ F₂ (x'.tk.trans (t₁.trans t₂)))

theorem St_Assign {t value : Expr} {pos} {Φ : F → AL → AH → Prop} (h : Ev X sc n value ρ H fun v H₁ => As X sc n t v ρ H₁ fun ρ' H' => Φ .next ρ' H')
    (hs : ∀ env, EnvOk sc env → swapsWithSole [t] value pos.line env = pure false := by walk_at "env")
    (hw : ∀ env, EnvOk sc env → swappedStores [t] value env = pure none := by walk_at "env")
    (ha : ∀ env, (assignEach [t] env).map (·.2) = [assign t env] := by intro _; rfl) : St X sc n (.Assign [t] value pos) ρ H Φ := by
  intro env B A s Q E he hf hA hR hF k
  rw [PyProof.Rows.exec_Assign]
  refine wpAny_bind (wpAny_standAt ?_)
  rw [hs env he]
  refine wpAny_bind (wpAny_pure ?_)
  rw [if_neg (by decide)]
  refine wpAny_bind (h env B A s _ E he hA hR hF fun v cv H₁ h₁ tk₁ p₁ v₁ R₁ F₁ t₁ => ?_)
  rw [hw env he]
  refine wpAny_bind (wpAny_pure ?_)
  rw [ha]
  show wpAny _ A (do assignAll cv [assign t env]; pure .next) Q E _
  exact wpAny_bind (p₁ env B A _ _ E cv he hf hA R₁ F₁ v₁ fun ρ' H' h' tk p R F' t => wpAny_pure (k .next _ ρ' H' h' tk p .next R F' (t₁.trans t)))

theorem St_Swap2 {ts value : Expr} {k tpos pos x y} {elts : List Expr} {Φ : F → AL → AH → Prop} (hts : ts = .Tuple elts k tpos) (h : Ev X sc n value ρ H fun v H₁ => ∃ v₁ v₂, v = .tup [v₁, v₂] ∧ Φ .next (put (put ρ y v₂) x v₁) H₁)
    (hx : isOwn sc x = true) (hy : isOwn sc y = true)
    (hs : ∀ env, EnvOk sc env → swapsWithSole [.Tuple elts k tpos] value pos.line env = pure false)
    (hw : ∀ env, EnvOk sc env → swappedStores [.Tuple elts k tpos] value env = pure (some [x, y])) : St X sc n (.Assign [ts] value pos) ρ H Φ := by
  subst hts
  intro env B A s Q E he hf hA hR hF q
  refine Assign_Tuple_swapped (names := [x, y]) (h env B A s _ E he hA hR hF fun v cv H₁ h₁ tk₁ p₁ v₁ R₁ F₁ t₁ => ?_) (hs env he) (hw env he)
  obtain ⟨w₁, w₂, rfl, p⟩ := p₁
  obtain ⟨a, xs, rfl, ht, hx'⟩ := v₁.tupInv
  obtain ⟨c₁, c₂, hxy, q₁, q₂⟩ := hx'.two
  have hsz : xs.size = 2 := by rw [← Array.length_toList, hxy]; rfl
  show wpAny _ A (unpackItems (.ref a) 2 none) _ E _
  rw [← hsz]
  refine unpackItems_tuple hA.1 ht fun h' e => ?_
  have x' := Ext.of e
  rw [hxy]
  show wpAny _ A (assignInOrder [fun v => bindName env y v, fun v => bindName env x v] [c₂, c₁]) _ E _
  refine assignInOrder_cons (wpAny_bindName (store he (.inl hf) hy (R₁.ext x') (F₁.ext R₁ x') (q₂.mono x'.tk) fun h₂ tk₂ R₂ F₂ t₂ _ => ?_))
  refine assignInOrder_cons (wpAny_bindName (store he (.inl hf) hx R₂ F₂ (q₁.mono (x'.tk.trans t₂)) fun h₃ tk₃ R₃ F₃ t₃ _ => ?_))
  exact assignInOrder_nil (q .next _ _ _ h₃ tk₃ p .next R₃ F₃ (t₁.trans (x'.tk.trans (t₂.trans t₃))))

/-! ### while -/
theorem St_While {t : Expr} {body : List Stmt} {pos} {Φ : F → AL → AH → Prop} (I : Nat → AL → AH → Prop)
    (step : ∀ k ρ H, I k ρ H → Tv X sc n t ρ H fun c H₁ => if c = true then Sx X sc n body ρ H₁ (fun f ρ' H' => match f with
        | .next | .cont => ∃ m, m < k ∧ I m ρ' H'
        | .brk => Φ .next ρ' H'
        | .ret v => Φ (.ret v) ρ' H') else Φ .next ρ H₁)
    (k : Nat) (h : I k ρ H) : St X sc n (.While t body [] pos) ρ H Φ := by
  intro env B A s Q E he hf hA hR hF q
  refine wpAny_While ?_
  refine codeAny_whileLoop (fun k s' => ∃ ρ H h tk, s' = { s with heap := h, toks := tk } ∧ I k ρ H ∧ HR X B H h ∧ FR B env ρ h ∧ TK s.heap h) ?_ k ⟨ρ, H, s.heap, s.toks, rfl, h, hR, hF, TK.refl _⟩
  rintro k s' ⟨ρ, H, h, tk, rfl, hI, hR, hF, ht⟩
  refine step k ρ H hI env B A _ _ _ he hA hR hF fun c H₁ h₁ tk₁ p₁ R₁ F₁ t₁ => ?_
  cases c with
  | false => exact wpAny_execs_nil (q .next _ ρ H₁ h₁ tk₁ p₁ .next R₁ F₁ (ht.trans t₁))
  | true =>
    refine p₁ env B A _ _ _ he hf hA R₁ F₁ fun f cf ρ₂ H₂ h₂ tk₂ p₂ q₂ R₂ F₂ t₂ => ?_
    have tt := ht.trans (t₁.trans t₂)
    cases q₂ with
    | next => obtain ⟨m, hm, hI'⟩ := p₂; exact ⟨m, hm, ρ₂, H₂, h₂, tk₂, rfl, hI', R₂, F₂, tt⟩
    | cont => obtain ⟨m, hm, hI'⟩ := p₂; exact ⟨m, hm, ρ₂, H₂, h₂, tk₂, rfl, hI', R₂, F₂, tt⟩
    | brk => exact q .next _ ρ₂ H₂ h₂ tk₂ p₂ .next R₂ F₂ tt
    | ret hv => exact q _ _ ρ₂ H₂ h₂ tk₂ p₂ (.ret hv) R₂ F₂ tt
end
inductive Src where
  | lst (a : Addr)
  | rng (lo : Int) (n : Nat)

def Src.item : Src → AH → Nat → Option V
  | .lst a, H, i => (H a).bind fun vs => vs[i]?
  | .rng lo n, _, i => if i < n then some (.int (lo + i)) else none
def Src.ok : Src → AH → Prop
  | .lst a, H => (H a).isSome = true
  | .rng _ _, _ => True

def ItAt (h : Heap) (it : Addr) : Src → Nat → Prop
  | .lst a, i => h.IsListIter it a i
  | .rng lo n, i => IsRangeIter h it (lo + i) ((n : Int) - i) 1

theorem ItAt.odd {h : Heap} {it : Addr} {S : Src} {i : Nat} (x : ItAt h it S i) : Odd h it := by
  cases S with
  | lst a => obtain ⟨o, ho, _, hd⟩ := x; exact ⟨_, _, ho, hd⟩
  | rng lo n => exact ⟨_, _, x, rfl⟩
theorem ItAt.keep {h h' : Heap} {it : Addr} {S : Src} {i : Nat} (x : ItAt h it S i) (e : h'.get? it = h.get? it) : ItAt h' it S i := by
  cases S with
  | lst a => obtain ⟨o, ho, r⟩ := x; exact ⟨o, e.trans ho, r⟩
  | rng lo n => exact e.trans x

section
variable {X : X0} {sc : Scope} {n : Nat} {ρ : AL} {H : AH}

theorem next_item {B : Addr → Option Obj} {A : Around} {s : Shared} {Q : Option Value → Shared → Prop} {E : Value → Shared → Prop} {it : Addr} {S : Src} {i : Nat} {v : V} (hR : HR X B H s.heap) (hi : ItAt s.heap it S i) (hv : S.item H i = some v)
    (k : ∀ cv h' tk, VR s.heap v cv → ItAt h' it S (i + 1) → Heap.ExtBut it s.heap h' → Q (some cv) { s with heap := h', toks := tk }) : wpAny (model X.prog X.w) A (pyNext (.ref it)) Q E s := by
  cases S with
  | lst a =>
    change ((H a).bind fun vs => vs[i]?) = _ at hv
    cases hl : H a with
    | none => rw [hl] at hv; cases hv
    | some vs =>
      rw [hl] at hv
      obtain ⟨xs, m, hL, hx⟩ := hR.lst hl
      obtain ⟨c, hc, q⟩ := hx.get (show vs[i]? = some v from hv)
      exact wpAny_pyNext_list_item hi hL.isList (by simpa using hc) fun h' hit hs => k c h' s.toks q hit hs.extBut
  | rng lo m =>
    change (if i < m then some (V.int (lo + i)) else none) = _ at hv
    split at hv
    · rename_i hlt
      cases hv
      refine wpAny_pyNext_range_item hi (by omega) fun h' hit hs => k _ h' _ (.int _ _) ?_ hs.extBut
      show IsRangeIter h' it (lo + ((i + 1 : Nat) : Int)) ((m : Int) - ((i + 1 : Nat) : Int)) 1
      have e1 : lo + ((i + 1 : Nat) : Int) = lo + (i : Int) + 1 := by omega
      have e2 : (m : Int) - ((i + 1 : Nat) : Int) = (m : Int) - (i : Int) - 1 := by omega
      rw [e1, e2]; exact hit
    · cases hv

theorem next_end {B : Addr → Option Obj} {A : Around} {s : Shared} {Q : Option Value → Shared → Prop} {E : Value → Shared → Prop} {it : Addr} {S : Src} {i : Nat} (hh : A.handled = none) (hR : HR X B H s.heap) (hi : ItAt s.heap it S i) (ho : S.ok H) (hv : S.item H i = none)
    (k : ∀ h' tk, Heap.ExtBut it s.heap h' → Q none { s with heap := h', toks := tk }) : wpAny (model X.prog X.w) A (pyNext (.ref it)) Q E s := by
  cases S with
  | lst a =>
    change ((H a).bind fun vs => vs[i]?) = _ at hv
    change (H a).isSome = true at ho
    cases hl : H a with
    | none => simp [hl] at ho
    | some vs =>
      rw [hl] at hv
      obtain ⟨xs, m, hL, hx⟩ := hR.lst hl
      have hle : xs[i]? = none := by
        have h1 : vs[i]? = none := hv
        rw [List.getElem?_eq_none_iff, hx.length] at h1
        exact Array.getElem?_eq_none (by simpa using h1)
      exact wpAny_pyNext_list_end hh hi hL.isList hle fun h' hs => k h' s.toks hs
  | rng lo m =>
    change (if i < m then some (V.int (lo + i)) else none) = _ at hv
    split at hv
    · cases hv
    · rename_i hlt
      exact wpAny_pyNext_range_end hh hi (by omega) fun h' hs => k h' s.toks hs

/-- what is iterated -/
def It (X : X0) (sc : Scope) (n : Nat) (iter : Expr) (ρ : AL) (H : AH) (Φ : Src → AH → Prop) : Prop :=
  ∀ (env : Env) (B : Addr → Option Obj) (A : Around) (s : Shared) (Q : Value → Shared → Prop) (E : Value → Shared → Prop), EnvOk sc env → Room n A → HR X B H s.heap → FR B env ρ s.heap →
    (∀ S it H' h' tk, Φ S H' → ItAt h' it S 0 → B it = none → HR X B H' h' → FR B env ρ h' → TK s.heap h' → Q (.ref it) { s with heap := h', toks := tk }) →
    wpAny (model X.prog X.w) A (eval iter env) (fun x s₁ => wpAny (model X.prog X.w) A (pyIter x) Q E s₁) E s

theorem HR.newB {B : Addr → Option Obj} {h : Heap} (r : HR X B H h) : B h.objs.size = none := by
  cases q : B h.objs.size with
  | none => rfl
  | some o => exact absurd (Heap.lt_size (r.keep _ _ q)) (Nat.lt_irrefl _)
theorem HR.newB' {B : Addr → Option Obj} {h : Heap} {a : Addr} (r : HR X B H h) (ha : h.objs.size ≤ a) : B a = none := by
  cases q : B a with
  | none => rfl
  | some o => exact absurd (Heap.lt_size (r.keep _ _ q)) (by show ¬ _; have : h.objs.size ≤ a := ha; exact Nat.not_lt.mpr this)

theorem It_list {iter : Expr} {Φ : Src → AH → Prop} (h : Ev X sc n iter ρ H fun v H₁ => ∃ a vs, v = .ref a ∧ H₁ a = some vs ∧ Φ (.lst a) H₁) : It X sc n iter ρ H Φ := by
  intro env B A s Q E he hA hR hF k
  refine h env B A s _ E he hA hR hF fun v cv H₁ h₁ tk₁ p₁ v₁ R₁ F₁ t₁ => ?_
  obtain ⟨a, vs, rfl, hl, p⟩ := p₁
  obtain rfl := v₁.refInv
  obtain ⟨xs, m, hL, hx⟩ := R₁.lst hl
  refine wpAny_pyIter_list hL.isList ?_
  have x := Ext.push h₁ { cls := .type "list_iterator", data := .fields #[.ref a, .int 0 0] }
  exact k (.lst a) _ H₁ _ tk₁ p ⟨_, Heap.get?_push_size _ rfl, rfl, rfl⟩ R₁.newB (R₁.ext x) (F₁.ext R₁ x) (t₁.trans x.tk)

theorem Es_one {e : Expr} {Φ : List V → AH → Prop} (h : Ev X sc n e ρ H fun v H₁ => Φ [v] H₁) (hs : ∀ env, starEach [e] env = (false, eval e env) :: starEach [] env := by intro _; rfl) : Es X sc n [e] ρ H Φ :=
  Es_cons (fun env B A s Q E he hA hR hF k => h env B A s Q E he hA hR hF fun v cv H' h' tk p => k v cv H' h' tk (Es_nil p)) hs

theorem range_small {a b : Int} (ha : -(2 ^ 62) ≤ a) (ha' : a < 2 ^ 62) (hb : -(2 ^ 62) ≤ b) (hb' : b < 2 ^ 62) : Builtin.Range.small a b 1 = true := small_one ha ha' hb hb'

/-- a range's iterator made out of a call of range -/
theorem It_range {rp rpos} {args : List Expr} {e : Expr} {rest : List Expr} {Φ : Src → AH → Prop} (ha : args = e :: rest)
    (hk : sc.names.lookup (PySem.Str.ofString "range") = some .globalImplicit) (hg : X.mg (PySem.Str.ofString "range") = none) (hb : X.mb (PySem.Str.ofString "range") = some (.type "range"))
    (h : Es X sc n args ρ H fun vs H₁ => ∃ lo hi : Int, (vs = [.int hi] ∧ lo = 0 ∨ vs = [.int lo, .int hi]) ∧ -(2 ^ 62) ≤ lo ∧ lo < 2 ^ 62 ∧ -(2 ^ 62) ≤ hi ∧ hi < 2 ^ 62 ∧ Φ (.rng lo (hi - lo).toNat) H₁)
    (hs : ∀ env, starEach (e :: rest) env = (false, eval e env) :: starEach rest env := by intro _; rfl) (hp : ∀ env, (starEach rest env).any (·.1) = false := by intro _; rfl) :
    It X sc n (.Call (.Name (PySem.Str.ofString "range") rp) args [] rpos) ρ H Φ := by
  subst ha
  intro env B A s Q E he hA hR hF k
  have hkind : env.scope.kind = .function := he.scope ▸ he.kind
  have hko : env.kindOf (PySem.Str.ofString "range") = some .globalImplicit := by rw [Env.kindOf, he.scope]; exact hk
  refine wpAny_Call_NameR (Name_function_global hkind hko (loadGlobal_builtin (mg := X.mg) (mb := X.mb) (by rw [he.glob]; exact hR.ok.g.keeps hR.ext₀) hg (by rw [he.blt]; exact hR.ok.b.keeps hR.ext₀) hb ?_))
  refine typCall rfl (hs env) (hp env) ?_
  refine h env rpos B A s _ E he hA hR hF fun vs cvs H₁ h₁ tk₁ p₁ v₁ R₁ F₁ t₁ => ?_
  obtain ⟨lo, hi, hvs, hlo, hlo', hhi, hhi', p⟩ := p₁
  have hsz : Builtin.Range.rangeSize lo hi 1 = ((hi - lo).toNat : Int) := by rw [rangeSize_one]; split <;> omega
  have fin : ∀ (o : Obj) (tk' : Nat) (t u v : Tok), IsRange (h₁.push o) h₁.objs.size lo hi 1 t u v →
      wpAny (model X.prog X.w) A (pyIter (.ref h₁.objs.size)) Q E { s with heap := h₁.push o, toks := tk' } := by
    intro o tk' t u v hr
    refine wpAny_pyIter_range hr (range_small hlo hlo' hhi hhi') ?_
    have x := Ext.trans (Ext.push h₁ o) (Ext.push _ { cls := .type "range_iterator", data := .fields #[rawInt lo, rawInt (Builtin.Range.rangeSize lo hi 1), rawInt 1] })
    refine k (.rng lo (hi - lo).toNat) _ H₁ _ tk' p ?_ (R₁.newB' (by show h₁.objs.size ≤ (h₁.push o).objs.size; rw [Heap.size_push]; exact Nat.le_succ _)) (R₁.ext x) (F₁.ext R₁ x) (t₁.trans x.tk)
    show IsRangeIter _ _ (lo + ((0 : Nat) : Int)) (((hi - lo).toNat : Int) - ((0 : Nat) : Int)) 1
    have e1 : lo + ((0 : Nat) : Int) = lo := by simp
    have e2 : ((hi - lo).toNat : Int) - ((0 : Nat) : Int) = Builtin.Range.rangeSize lo hi 1 := by rw [hsz]; simp
    rw [e1, e2]
    exact Heap.get?_push_size _ rfl
  rcases hvs with ⟨rfl, rfl⟩ | rfl
  · obtain ⟨_, rfl⟩ := v₁.int1
    exact call_range_1 (fin _ _ _ _ _ (IsRange.new ..))
  · obtain ⟨_, _, rfl⟩ := v₁.int2
    exact call_range_2 (fin _ _ _ _ _ (IsRange.new ..))

/-! ### for -/
noncomputable def Lp (X : X0) (sc : Scope) (n : Nat) (x : PySem.Str) (body : List Stmt) (S : Src) (Φ : F → AL → AH → Prop) : Nat → Nat → AL → AH → Prop
  | 0, i, ρ, H => S.ok H ∧ S.item H i = none ∧ Φ .next ρ H
  | k + 1, i, ρ, H => ∃ v, S.item H i = some v ∧ Sx X sc n body (put ρ x v) H fun f ρ' H' => match f with
      | .next | .cont => Lp X sc n x body S Φ k (i + 1) ρ' H'
      | .brk => Φ .next ρ' H'
      | .ret w => Φ (.ret w) ρ' H'

theorem guardAll {B : Addr → Option Obj} {env : Env} {h : Heap} {it : Addr} {S : Src} {i : Nat} (hR : HR X B H h) (hF : FR B env ρ h) (hi : ItAt h it S i) :
    ∃ o, h.get? it = some o ∧ HR X (upd B it o) H h ∧ FR (upd B it o) env ρ h := by
  obtain ⟨o, fs, ho, hd⟩ := hi.odd.at_
  refine ⟨o, ho, hR.guard ho (hR.notOdd hi.odd), hF.guard ?_ fun v hc => odd_not_cell hi.odd hc⟩
  obtain ⟨m, hm, _⟩ := hF.ns
  intro z
  exact odd_not_ns hi.odd (z ▸ hm)

theorem St_For {x : PySem.Str} {px pos : Pos} {iter : Expr} {body : List Stmt} {Φ : F → AL → AH → Prop} (hx : isOwn sc x = true)
    (h : It X sc n iter ρ H fun S H₁ => ∃ k, Lp X sc n x body S Φ k 0 ρ H₁)
    (hs : ∀ env v, foldedSetIterable iter env v = pure v := by intro _ _; rfl) : St X sc n (.For (.Name x px) iter body [] pos) ρ H Φ := by
  intro env B A s Q E he hf hA hR hF q
  refine wpAny_For (h env B A s _ E he hA hR hF fun S it H₁ h₁ tk₁ p₁ hit hB R₁ F₁ t₁ => ?_) (hs env)
  obtain ⟨k, p₁⟩ := p₁
  refine codeAny_forLoop (fun k s' => ∃ ρ H h tk i, s' = { s with heap := h, toks := tk } ∧ Lp X sc n x body S Φ k i ρ H ∧ ItAt h it S i ∧ HR X B H h ∧ FR B env ρ h ∧ TK s.heap h) ?_ k ⟨ρ, H₁, h₁, tk₁, 0, rfl, p₁, hit, R₁, F₁, t₁⟩
  rintro k s' ⟨ρ, H, h, tk, i, rfl, hL, hit, hR, hF, ht⟩
  cases k with
  | zero =>
    obtain ⟨ho, hn, hp⟩ := hL
    refine next_end hA.1 hR hit ho hn fun h' tk' e => ?_
    obtain ⟨t', R'⟩ := hR.atOdd hit.odd hB e
    exact wpAny_execs_nil (q .next _ ρ H h' tk' hp .next R' (hF.atOdd hit.odd e) (ht.trans t'))
  | succ k =>
    obtain ⟨v, hv, hbody⟩ := hL
    refine next_item hR hit hv fun cv h₂ tk₂ hcv hit₂ e => ?_
    obtain ⟨t₂, R₂⟩ := hR.atOdd hit.odd hB e
    have F₂ := hF.atOdd hit.odd e
    obtain ⟨o, ho, R₂', F₂'⟩ := guardAll R₂ F₂ hit₂
    refine PyProof.Rows.assign_Name (store he (.inl hf) hx R₂' F₂' (hcv.mono t₂) fun h₃ tk₃ R₃ F₃ t₃ _ => ?_)
    refine hbody env _ A _ _ _ he hf hA R₃ F₃ fun f cf ρ₄ H₄ h₄ tk₄ p₄ q₄ R₄ F₄ t₄ => ?_
    have hit₄ : ItAt h₄ it S (i + 1) := hit₂.keep ((R₄.keep it o upd_same).trans ho.symm)
    have R₅ := R₄.unguard hB hR.root
    have F₅ := F₄.unguard hB
    have tt := ht.trans (t₂.trans (t₃.trans t₄))
    cases q₄ with
    | next => exact ⟨k, Nat.lt_succ_self _, ρ₄, H₄, h₄, tk₄, i + 1, rfl, p₄, hit₄, R₅, F₅, tt⟩
    | cont => exact ⟨k, Nat.lt_succ_self _, ρ₄, H₄, h₄, tk₄, i + 1, rfl, p₄, hit₄, R₅, F₅, tt⟩
    | brk => exact q .next _ ρ₄ H₄ h₄ tk₄ p₄ .next R₅ F₅ tt
    | ret hw => exact q _ _ ρ₄ H₄ h₄ tk₄ p₄ (.ret hw) R₅ F₅ tt

/-- a loop by what holds between its turns -/
theorem Lp_inv {x : PySem.Str} {body : List Stmt} {S : Src} {Φ : F → AL → AH → Prop} (J : Nat → AL → AH → Prop) (m : Nat)
    (step : ∀ i ρ H, i < m → J i ρ H → ∃ v, S.item H i = some v ∧ ∀ Ψ : F → AL → AH → Prop, (∀ ρ' H', J (i + 1) ρ' H' → Ψ .next ρ' H' ∧ Ψ .cont ρ' H') → (∀ w ρ' H', Φ (.ret w) ρ' H' → Ψ (.ret w) ρ' H') → Sx X sc n body (put ρ x v) H Ψ)
    (fin : ∀ ρ H, J m ρ H → S.ok H ∧ S.item H m = none ∧ Φ .next ρ H) (h0 : J 0 ρ H) : Lp X sc n x body S Φ m 0 ρ H := by
  have key : ∀ k i ρ H, i + k = m → J i ρ H → Lp X sc n x body S Φ k i ρ H := by
    intro k
    induction k with
    | zero => intro i ρ H e hJ; have hm : i = m := (by omega); subst hm; exact fin ρ H hJ
    | succ k ih =>
      intro i ρ H e hJ
      obtain ⟨v, hv, hb⟩ := step i ρ H (by omega) hJ
      exact ⟨v, hv, hb _ (fun ρ' H' hf => ⟨ih (i + 1) ρ' H' (by omega) hf, ih (i + 1) ρ' H' (by omega) hf⟩) fun w ρ' H' hf => hf⟩
  exact key m 0 ρ H (by omega) h0

/-! ### comprehensions -/
def relab (scope sc : Scope) : Scope :=
  { scope with names := scope.names.map fun (n, k) => if (k == .free && sc.kind == .function && sc.names.lookup n == some .cell) then (n, .cell) else (n, k) }
theorem relabel_eq {scope : Scope} {env : Env} (he : EnvOk sc env) : relabel scope env = relab scope sc := by
  obtain ⟨h1, h2, h3, h4⟩ := he
  subst h1; rfl

/-- the tests of a clause -/
def Ts (X : X0) (sc : Scope) (n : Nat) : List Expr → AL → AH → (Bool → AH → Prop) → Prop
  | [], _, H, Φ => Φ true H
  | [c], ρ, H, Φ => Tv X sc n c ρ H Φ
  | _, _, _, _ => False

noncomputable def Cp (X : X0) (sc : Scope) (n : Nat) (x : PySem.Str) (ifs : List Expr) (elt : Expr) (S : Src) (ρ : AL) (Φ : List V → AH → Prop) : Nat → Nat → AH → List V → Prop
  | 0, i, H, acc => S.ok H ∧ S.item H i = none ∧ Φ acc H
  | k + 1, i, H, acc => ∃ v, S.item H i = some v ∧ Ts X sc n ifs (put ρ x v) H fun b H₁ =>
      if b = true then Ev X sc n elt (put ρ x v) H₁ fun w H₂ => acc.length ≤ sizeLine ∧ Cp X sc n x ifs elt S ρ Φ k (i + 1) H₂ (acc ++ [w])
      else Cp X sc n x ifs elt S ρ Φ k (i + 1) H₁ acc


/-- names free in a block are cells of the frame's -/
theorem closure_go {env : Env} : ∀ (names : List (PySem.Str × NameKind)) (acc : List (PySem.Str × Addr)), (∀ x ∈ names, x.2 = .free → ∃ c, env.cells.lookup x.1 = some c) →
    (∀ y c, acc.lookup y = some c → env.cells.lookup y = some c) →
    ∃ cl, (forIn names acc fun x __s => have cs := __s; match x with
          | (name, kind) => if (kind == NameKind.free) = true then do
              let __do_lift ← cellOf env name
              have cs : List (PySem.Str × Addr) := (name, __do_lift) :: cs
              pure (ForInStep.yield cs)
            else pure (ForInStep.yield cs) : Sem (List (PySem.Str × Addr))) = pure cl ∧
      (∀ y c, cl.lookup y = some c → env.cells.lookup y = some c) ∧ (∀ y, (acc.lookup y).isSome = true → (cl.lookup y).isSome = true) ∧ ∀ x ∈ names, x.2 = .free → (cl.lookup x.1).isSome = true
  | [], acc, _, ha => ⟨acc, by rw [List.forIn_nil], ha, fun _ q => q, fun _ q => nomatch q⟩
  | (nm, kd) :: r, acc, hn, ha => by
    have hr : ∀ x ∈ r, x.2 = .free → ∃ c, env.cells.lookup x.1 = some c := fun x hx => hn x (List.mem_cons_of_mem _ hx)
    rw [List.forIn_cons]
    by_cases hk : kd = .free
    · subst hk
      obtain ⟨c, hc⟩ := hn (nm, .free) List.mem_cons_self rfl
      obtain ⟨cl, e, h1, h2, h3⟩ := closure_go r ((nm, c) :: acc) hr fun y c' q => by
        rw [List.lookup_cons] at q
        by_cases hy : y = nm
        · subst hy; simp at q; subst q; exact hc
        · have : (y == nm) = false := by simpa using hy
          rw [this] at q; exact ha y c' q
      refine ⟨cl, ?_, h1, fun y q => h2 y ?_, fun x hx hx' => ?_⟩
      · have hco : cellOf env nm = pure c := by unfold cellOf; rw [hc]
        rw [← e]
        simp only [beq_self_eq_true, if_true, hco, pure_bind]
      · rw [List.lookup_cons]; split
        · rfl
        · exact q
      · rcases List.mem_cons.mp hx with rfl | hx
        · exact h2 _ (by rw [List.lookup_cons]; simp)
        · exact h3 x hx hx'
    · obtain ⟨cl, e, h1, h2, h3⟩ := closure_go r acc hr ha
      have hb : (kd == NameKind.free) = false := by simpa using hk
      refine ⟨cl, ?_, h1, h2, fun x hx hx' => ?_⟩
      · rw [← e]
        simp only [hb, Bool.false_eq_true, if_false, pure_bind]
      · rcases List.mem_cons.mp hx with rfl | hx
        · exact (hk hx').elim
        · exact h3 x hx hx'

theorem closure_ex {scope : Scope} {env : Env} (hn : ∀ x ∈ scope.names, x.2 = .free → ∃ c, env.cells.lookup x.1 = some c) :
    ∃ cl, closureFor scope env = pure cl ∧ (∀ y c, cl.lookup y = some c → env.cells.lookup y = some c) ∧ ∀ x ∈ scope.names, x.2 = .free → (cl.lookup x.1).isSome = true := by
  obtain ⟨cl, e, h1, _, h3⟩ := closure_go scope.names [] hn (fun y c q => by simp at q)
  refine ⟨cl, ?_, h1, h3⟩
  unfold closureFor
  dsimp only
  rw [e]; rfl

/-- the frame's names that a block sees -/
def seen (scope : Scope) (ρ : AL) : AL := fun y => if scope.names.lookup y = some .free then ρ y else none
theorem seen_some {scope : Scope} {y : PySem.Str} {v : V} (hy : scope.names.lookup y = some .free) (h : ρ y = some v) : seen scope ρ y = some v := by
  unfold seen; rw [if_pos hy]; exact h

/-- a scope of a block that fits its frame's -/
structure CompOk (scope sc : Scope) (x : PySem.Str) : Prop where
  kind : scope.kind = .function
  loc : scope.names.lookup x = some .local
  cell : ∀ y ∈ scope.names, y.2 ≠ .cell
  locs : ∀ y ∈ scope.names, y.2 = .local → scope.names.lookup y.1 = some .local
  free : ∀ y ∈ scope.names, y.2 = .free → sc.names.lookup y.1 = some .cell
  nofree : ∀ y, scope.names.lookup y = some .free → sc.names.lookup y = some .cell

def compOkB (scope sc : Scope) (x : PySem.Str) : Bool :=
  scope.kind == .function && decide (scope.names.lookup x = some .local) && scope.names.all fun y => y.2 != .cell && (y.2 != .local || decide (scope.names.lookup y.1 = some .local)) && (y.2 != .free || decide (sc.names.lookup y.1 = some .cell))
theorem compOk_of {scope sc : Scope} {x : PySem.Str} (h : compOkB scope sc x = true) : CompOk scope sc x := by
  unfold compOkB at h
  simp only [Bool.and_eq_true, List.all_eq_true, Bool.or_eq_true, decide_eq_true_eq, bne_iff_ne, ne_eq, beq_iff_eq] at h
  obtain ⟨⟨h1, h2⟩, h3⟩ := h
  refine ⟨h1, h2, fun y hy => (h3 y hy).1.1, fun y hy e => ((h3 y hy).1.2).resolve_left fun q => q e, fun y hy e => ((h3 y hy).2).resolve_left fun q => q e, fun y e => ?_⟩
  have hm := mem_of_lookup e
  exact ((h3 _ hm).2).resolve_left fun q => q rfl

theorem lookup_relab {scope sc : Scope} {x : PySem.Str} (ok : CompOk scope sc x) (hk : sc.kind = .function) : ∀ (names : List (PySem.Str × NameKind)), (∀ y ∈ names, y ∈ scope.names) → ∀ z,
    (names.map fun (p : PySem.Str × NameKind) => if (p.2 == .free && sc.kind == .function && sc.names.lookup p.1 == some .cell) then (p.1, NameKind.cell) else (p.1, p.2)).lookup z =
      (names.lookup z).map fun k => if k = .free then .cell else k
  | [], _, z => rfl
  | (nm, kd) :: r, hm, z => by
    have ih := lookup_relab ok hk r (fun y hy => hm y (List.mem_cons_of_mem _ hy)) z
    rw [List.map_cons]
    by_cases hf : kd = .free
    · subst hf
      have hc : sc.names.lookup nm = some .cell := ok.free (nm, .free) (hm _ List.mem_cons_self) rfl
      have hcond : (NameKind.free == NameKind.free && sc.kind == ScopeKind.function && sc.names.lookup nm == some NameKind.cell) = true := by rw [hk, hc]; rfl
      simp only [hcond, if_true]
      rw [List.lookup_cons, List.lookup_cons]
      split
      · simp
      · exact ih
    · have hcond : (kd == NameKind.free && sc.kind == ScopeKind.function && sc.names.lookup nm == some NameKind.cell) = false := by
        have : (kd == NameKind.free) = false := by simpa using hf
        simp [this]
      simp only [hcond, Bool.false_eq_true, if_false]
      rw [List.lookup_cons, List.lookup_cons]
      split
      · simp [hf]
      · exact ih

theorem relab_lookup {scope sc : Scope} {x : PySem.Str} (ok : CompOk scope sc x) (hk : sc.kind = .function) (z : PySem.Str) : (relab scope sc).names.lookup z = (scope.names.lookup z).map fun k => if k = .free then .cell else k :=
  lookup_relab ok hk scope.names (fun _ h => h) z

/-- a block's state: D its list, C its names, it the iterator -/
structure CS (X : X0) (B : Addr → Option Obj) (env : Env) (ρ : AL) (S : Src) (h₁ : Heap) (it D C : Addr) (H : AH) (h : Heap) (i : Nat) (acc : List V) : Prop where
  r : HR X B H h
  f : FR B env ρ h
  tk : TK h₁ h
  item : ItAt h it S i
  lst : ∃ xs m, IsL h D xs m ∧ VRs h acc xs.toList
  ns : ∃ m, h.Ns C m
  bi : B it = none
  bd : B D = none
  bc : B C = none
  hd : H D = none
  cl : C ≠ env.locals
  root : ∀ b o, X.h₀.get? b = some o → b ≠ C

/-- what a turn's expressions may not touch -/
def shield (H : AH) (h : Heap) (C : Addr) : Addr → Option Obj := fun b => if b = C then none else allBut H h b

theorem CS.in {B env S h₁ it D C h i acc} (c : CS X B env ρ S h₁ it D C H h i acc) : HR X (shield H h C) H h where
  ok := c.r.ok
  root b o e := by
    have hb := c.r.all.root b o e
    unfold shield
    rw [if_neg (c.root b o e)]; exact hb
  keep b o e := by
    unfold shield at e
    split at e
    · cases e
    · exact c.r.all.keep b o e
  cell a vs e := by
    refine ⟨?_, (c.r.cell a vs e).2⟩
    unfold shield
    split
    · rfl
    · exact (c.r.all.cell a vs e).1

theorem CS.out {B env S h₁ it D C h i acc H' h' cenv ρ'} (c : CS X B env ρ S h₁ it D C H h i acc) (hC : cenv.locals = C) (r : HR X (shield H h C) H' h') (f : FR (shield H h C) cenv ρ' h') (t : TK h h') : CS X B env ρ S h₁ it D C H' h' i acc := by
  have sh : ∀ b o, h.get? b = some o → H b = none → b ≠ C → h'.get? b = some o := fun b o e hb hc => r.keep b o (by simp [shield, hc, allBut, hb, e])
  have oldB : ∀ b o, B b = some o → shield H h C b = some o := fun b o e => by
    have h1 := c.r.keep b o e
    have h2 : H b = none := by
      cases q : H b with
      | none => rfl
      | some vs => have := (c.r.cell b vs q).1; rw [e] at this; cases this
    have h3 : b ≠ C := fun z => by subst z; rw [c.bc] at e; cases e
    simp [shield, h3, allBut, h2, h1]
  obtain ⟨xs, m, hl, hv⟩ := c.lst
  obtain ⟨oi, fs, hoi, hdi⟩ := c.item.odd.at_
  obtain ⟨mC, hnC⟩ := c.ns
  have hDC : D ≠ C := fun z => by subst z; exact ns_not_list hnC hl
  have hIC : it ≠ C := fun z => by subst z; exact odd_not_ns c.item.odd hnC
  refine ⟨⟨c.r.ok, c.r.root, fun b o e => r.keep b o (oldB b o e), fun a vs e => ?_⟩, ?_, c.tk.trans t, c.item.keep ((sh it oi hoi (c.r.notOdd c.item.odd) hIC).trans hoi.symm),
    ⟨xs, m, sh D _ hl c.hd hDC, hv.mono t⟩, ?_, c.bi, c.bd, c.bc, ?_, c.cl, c.root⟩
  · obtain ⟨h1, h2⟩ := r.cell a vs e
    refine ⟨?_, h2⟩
    cases q : B a with
    | none => rfl
    | some o => rw [oldB a o q] at h1; cases h1
  · refine c.f.move (fun m hm => ?_) (fun cc v hc => ?_) t
    · have hH := c.r.notNs hm
      obtain ⟨o, es, ep, ho, q⟩ := hm
      exact ⟨o, es, ep, sh _ _ ho hH (Ne.symm c.cl), q⟩
    · have hH := c.r.notCell hc
      have hne : cc ≠ C := fun z => by subst z; exact cell_not_ns hc hnC
      obtain ⟨o, ho, hd⟩ := hc
      exact ⟨o, sh _ _ ho hH hne, hd⟩
  · obtain ⟨m, hm, _⟩ := f.ns; exact ⟨m, hC ▸ hm⟩
  · cases q : H' D with
    | none => rfl
    | some vs =>
      have := (r.cell D vs q).1
      simp [shield, hDC, allBut, c.hd, show h.get? D = _ from hl] at this

theorem CS.atOdd {B env S h₁ it D C h i i' acc h'} (c : CS X B env ρ S h₁ it D C H h i acc) (e : Heap.ExtBut it h h') (hi : ItAt h' it S i') : CS X B env ρ S h₁ it D C H h' i' acc := by
  obtain ⟨t, r⟩ := c.r.atOdd c.item.odd c.bi e
  obtain ⟨xs, m, hl, hv⟩ := c.lst
  obtain ⟨mC, hnC⟩ := c.ns
  exact ⟨r, c.f.atOdd c.item.odd e, c.tk.trans t, hi, ⟨xs, m, e D _ (fun z => by subst z; exact odd_not_list c.item.odd hl) hl, hv.mono t⟩,
    ⟨mC, hnC.extBut e fun z => by subst z; exact odd_not_ns c.item.odd hnC⟩, c.bi, c.bd, c.bc, c.hd, c.cl, c.root⟩

theorem CS.names {B env S h₁ it D C h i acc h' m'} (c : CS X B env ρ S h₁ it D C H h i acc) (e : Heap.SameBut C h h') (hn : h'.Ns C m') : CS X B env ρ S h₁ it D C H h' i acc := by
  obtain ⟨xs, m, hl, hv⟩ := c.lst
  obtain ⟨mC, hnC⟩ := c.ns
  have t : TK h h' := TK.sameBut e fun xs y => tup_not_ns y hnC
  refine ⟨⟨c.r.ok, c.r.root, fun b o q => (e.2 b fun z => by subst z; rw [c.bc] at q; cases q).trans (c.r.keep b o q), fun a vs q => ?_⟩, ?_, c.tk.trans t, c.item.keep (e.2 it fun z => by subst z; exact odd_not_ns c.item.odd hnC),
    ⟨xs, m, (e.2 D fun z => by subst z; exact ns_not_list hnC hl).trans hl, hv.mono t⟩, ⟨_, hn⟩, c.bi, c.bd, c.bc, c.hd, c.cl, c.root⟩
  · obtain ⟨h1, ys, k, hl', hv'⟩ := c.r.cell a vs q
    exact ⟨h1, ys, k, (e.2 a fun z => by subst z; exact ns_not_list hnC hl').trans hl', hv'.mono t⟩
  · exact c.f.move (fun m hm => hm.sameBut e (Ne.symm c.cl)) (fun cc v hc => hc.sameBut e fun z => by subst z; exact cell_not_ns hc hnC) t

theorem CS.append {B env S h₁ it D C h i acc h' xs cv w} (c : CS X B env ρ S h₁ it D C H h i acc) (hl : ∃ m, IsL h D xs m) (hv : VRs h acc xs.toList) (e : Heap.SameBut D h h') (hl' : Heap.PlainList h' D (xs.push cv)) (hw : VR h w cv) : CS X B env ρ S h₁ it D C H h' i (acc ++ [w]) := by
  obtain ⟨m, hl⟩ := hl
  obtain ⟨mC, hnC⟩ := c.ns
  have t : TK h h' := TK.sameBut e fun xs y => tup_not_list y hl
  obtain ⟨m', hl'⟩ := hl'
  refine ⟨⟨c.r.ok, c.r.root, fun b o q => (e.2 b fun z => by subst z; rw [c.bd] at q; cases q).trans (c.r.keep b o q), fun a vs q => ?_⟩, ?_, c.tk.trans t, c.item.keep (e.2 it fun z => by subst z; exact odd_not_list c.item.odd hl),
    ⟨_, m', hl', ?_⟩, ⟨_, hnC.sameBut e fun z => by subst z; exact ns_not_list hnC hl⟩, c.bi, c.bd, c.bc, c.hd, c.cl, c.root⟩
  · obtain ⟨h1, ys, k, hl', hv'⟩ := c.r.cell a vs q
    exact ⟨h1, ys, k, (e.2 a fun z => by subst z; rw [c.hd] at q; cases q).trans hl', hv'.mono t⟩
  · exact c.f.move (fun m hm => hm.sameBut e fun z => by subst z; exact ns_not_list hm hl) (fun cc v hc => hc.sameBut e fun z => by subst z; exact cell_not_list hc hl) t
  · rw [Array.toList_push]; exact VRs.append (hv.mono t) (.cons (hw.mono t) .nil)

/-- the block's frame out of the one around it -/
theorem CS.frame {B env S h₁ it D C h i acc scope x v m} {cl : List (PySem.Str × Addr)} (c : CS X B env ρ S h₁ it D C H h i acc) (he : EnvOk sc env) (ok : CompOk scope sc x)
    (hcl : ∀ y c, cl.lookup y = some c → env.cells.lookup y = some c) (hcf : ∀ y ∈ scope.names, y.2 = .free → (cl.lookup y.1).isSome = true) (hn : h.Ns C m) {cv : Value} (hm : m x = some cv) (hv : VR h v cv) :
    FR (shield H h C) (compEnvC scope cl C env) (put (seen scope ρ) x v) h where
  ns := ⟨m, hn, fun y w hy hw => by
    have hk : (relab scope sc).names.lookup y = some .local := by rw [← relabel_eq he]; exact hy
    rw [relab_lookup ok he.kind] at hk
    by_cases z : y = x
    · subst z; rw [put_same] at hw; cases hw; exact ⟨cv, hm, hv⟩
    · rw [put_ne z] at hw
      unfold seen at hw
      split at hw
      · rename_i q; rw [q] at hk; cases hk
      · cases hw⟩
  fresh := by show shield H h C C = none; simp [shield]
  cell y w hy hw := by
    have hk : (relab scope sc).names.lookup y = some .cell ∨ (relab scope sc).names.lookup y = some .free := by rw [← relabel_eq he]; exact hy
    have z : y ≠ x := fun z => by
      subst z
      rw [relab_lookup ok he.kind, ok.loc] at hk
      rcases hk with hk | hk <;> cases hk
    rw [put_ne z] at hw
    unfold seen at hw
    split at hw
    · rename_i q
      have hko : env.kindOf y = some .cell := by rw [Env.kindOf, he.scope]; exact ok.nofree y q
      obtain ⟨cc, cw, h1, h2, h3⟩ := c.f.cell y w (.inl hko) hw
      have hs := hcf _ (mem_of_lookup q) rfl
      obtain ⟨c', hc'⟩ := Option.isSome_iff_exists.mp hs
      have := hcl y c' hc'
      rw [h1] at this; cases this
      exact ⟨cc, cw, hc', h2, h3⟩
    · cases hw
  slot y hy := by
    have hk : (relab scope sc).names.lookup y = some .cell := by rw [← relabel_eq he]; exact hy
    rw [relab_lookup ok he.kind] at hk
    cases q : scope.names.lookup y with
    | none => rw [q] at hk; cases hk
    | some kd =>
      have hm := mem_of_lookup q
      have hne := ok.cell _ hm
      rw [q] at hk
      have hfr : kd = .free := by
        by_cases z : kd = .free
        · exact z
        · simp [z] at hk; exact (hne hk).elim
      subst hfr
      obtain ⟨c₀, o, hc₀, hi⟩ := c.f.slot y (by rw [Env.kindOf, he.scope]; exact ok.nofree y q)
      obtain ⟨c', hc'⟩ := Option.isSome_iff_exists.mp (hcf _ hm rfl)
      have := hcl y c' hc'
      rw [hc₀] at this; cases this
      exact ⟨_, o, hc', hi⟩
  own hf := (hf rfl).elim
  apart hf := (hf rfl).elim

theorem compEnv_ok {env : Env} {scope : Scope} {x : PySem.Str} {cl : List (PySem.Str × Addr)} {C : Addr} (he : EnvOk sc env) (ok : CompOk scope sc x) : EnvOk (relab scope sc) (compEnvC scope cl C env) where
  scope := relabel_eq he
  kind := ok.kind
  glob := he.glob
  blt := he.blt

theorem tests_run {ifs : List Expr} {Φ : Bool → AH → Prop} {env : Env} {B : Addr → Option Obj} {A : Around} {s : Shared} {Q : Bool → Shared → Prop} {E : Value → Shared → Prop} (h : Ts X sc n ifs ρ H Φ) (he : EnvOk sc env) (hA : Room n A) (hR : HR X B H s.heap) (hF : FR B env ρ s.heap)
    (k : ∀ b H' h' tk, Φ b H' → HR X B H' h' → FR B env ρ h' → TK s.heap h' → Q b { s with heap := h', toks := tk }) :
    wpAny (model X.prog X.w) A (forIn ifs true fun c r => if r = true then do let ok ← isTrue c env (eval c env); pure (ForInStep.yield ok) else pure (ForInStep.yield r)) Q E s := by
  match ifs, h with
  | [], h => exact wpAny_tests_nil (k true H s.heap s.toks h hR hF (TK.refl _))
  | [c], h => exact wpAny_tests_one (h env B A s Q E he hA hR hF k)
  | _ :: _ :: _, h => exact h.elim

theorem comp_loop {elt iter : Expr} {x : PySem.Str} {px : Pos} {ifs : List Expr} {scope : Scope} {cl : List (PySem.Str × Addr)} {pos : Pos} {S : Src} {Φ : List V → AH → Prop} {B : Addr → Option Obj} {A : Around} {s : Shared} {env : Env} {it D C : Addr} {h₁ : Heap} {R : Result → Shared → Prop}
    (he : EnvOk sc env) (hA : Room n A) (ok : CompOk scope sc x) (hcl : ∀ y c, cl.lookup y = some c → env.cells.lookup y = some c) (hcf : ∀ y ∈ scope.names, y.2 = .free → (cl.lookup y.1).isSome = true)
    (c : CS X B env ρ S h₁ it D C H s.heap 0 []) (k : Nat) (hp : Cp X (relab scope sc) n x ifs elt S (seen scope ρ) Φ k 0 H [])
    (fin : ∀ acc H' h' tk i, Φ acc H' → CS X B env ρ S h₁ it D C H' h' i acc ∨ (∃ h₀, CS X B env ρ S h₁ it D C H' h₀ i acc ∧ Heap.ExtBut it h₀ h') → R (.ok .next) { s with heap := h', toks := tk }) :
    codeAny (model X.prog X.w) A (.compLoop (.ListComp elt [⟨.Name x px, iter, ifs, 0⟩] scope pos) 0 (.ref it) (.ref D) (compEnvC scope cl C env)) R s := by
  have hce : EnvOk (relab scope sc) (compEnvC scope cl C env) := compEnv_ok he ok
  refine codeAny_compLoop_tests (fun k s' => ∃ H h tk i acc, s' = { s with heap := h, toks := tk } ∧ CS X B env ρ S h₁ it D C H h i acc ∧ Cp X (relab scope sc) n x ifs elt S (seen scope ρ) Φ k i H acc) ?_ k ⟨H, s.heap, s.toks, 0, [], rfl, c, hp⟩
  rintro k s' ⟨H, h, tk, i, acc, rfl, c, hp⟩
  cases k with
  | zero =>
    obtain ⟨ho, hn, hΦ⟩ := hp
    exact next_end hA.1 c.r c.item ho hn fun h' tk' e => fin acc H h' tk' i hΦ (.inr ⟨h, c, e⟩)
  | succ k =>
    obtain ⟨v, hv, hp⟩ := hp
    refine next_item c.r c.item hv fun cv h₂ tk₂ hcv hit e => ?_
    have c₂ := c.atOdd e hit
    have t₂ : TK h h₂ := TK.extBut e fun xs y => odd_not_tup c.item.odd y
    obtain ⟨mC, hnC⟩ := c₂.ns
    have hkx : (compEnvC scope cl C env).kindOf x = some .local := by
      show (relabel scope env).names.lookup x = some .local
      rw [relabel_eq he, relab_lookup ok he.kind, ok.loc]; rfl
    refine wpAny_assign_Name (wpAny_storeName_local hkx hnC (fun h₃ hn₃ hs₃ => ?_) (by rw [hce.scope, hce.kind]; rfl))
    have c₃ := c₂.names hs₃ hn₃
    have t₃ : TK h₂ h₃ := TK.sameBut hs₃ fun xs y => tup_not_ns y hnC
    have F₃ := c₃.frame he ok hcl hcf hn₃ (x := x) (cv := cv) (by simp) (hcv.mono (t₂.trans t₃))
    refine tests_run hp hce hA c₃.in F₃ fun b H₄ h₄ tk₄ p₄ R₄ F₄ t₄ => ?_
    have c₄ := c₃.out (cenv := compEnvC scope cl C env) rfl R₄ F₄ t₄
    cases b with
    | false =>
      simp only [Bool.false_eq_true, if_false] at p₄ ⊢
      exact ⟨k, Nat.lt_succ_self _, H₄, h₄, tk₄, i + 1, acc, rfl, c₄, p₄⟩
    | true =>
      simp only [if_true] at p₄ ⊢
      refine p₄ (compEnvC scope cl C env) _ A _ _ _ hce hA R₄ F₄ fun w cw H₅ h₅ tk₅ p₅ v₅ R₅ F₅ t₅ => ?_
      have c₅ := c₃.out (cenv := compEnvC scope cl C env) rfl R₅ F₅ (t₄.trans t₅)
      obtain ⟨xs, m, hl, hxs⟩ := c₅.lst
      refine wpAny_list_append_plain ⟨m, hl⟩ (fun h₆ hl₆ hs₆ => ?_) (by have := hxs.length; have h2 := p₅.1; simp at this; omega)
      exact ⟨k, Nat.lt_succ_self _, H₅, h₆, tk₅, i + 1, acc ++ [w], rfl, c₅.append ⟨m, hl⟩ hxs hs₆ hl₆ v₅, p₅.2⟩
end
section
variable {X : X0} {sc : Scope} {n : Nat} {ρ : AL} {H : AH}

theorem CS.drop {B : Addr → Option Obj} {env : Env} {S : Src} {h₁ h h' : Heap} {it D C : Addr} {i : Nat} {acc : List V} (c : CS X B env ρ S h₁ it D C H h i acc) (e : Heap.ExtBut it h h') :
    HR X B H h' ∧ FR B env ρ h' ∧ TK h₁ h' ∧ (∃ xs m, IsL h' D xs m ∧ VRs h' acc xs.toList) ∧ (∃ m, h'.Ns C m) := by
  obtain ⟨t, r⟩ := c.r.atOdd c.item.odd c.bi e
  obtain ⟨xs, m, hl, hv⟩ := c.lst
  obtain ⟨mC, hnC⟩ := c.ns
  exact ⟨r, c.f.atOdd c.item.odd e, c.tk.trans t, ⟨xs, m, e D _ (fun z => by subst z; exact odd_not_list c.item.odd hl) hl, hv.mono t⟩, ⟨mC, hnC.extBut e fun z => by subst z; exact odd_not_ns c.item.odd hnC⟩⟩

theorem comp_block {elt iter : Expr} {x : PySem.Str} {px : Pos} {ifs : List Expr} {scope : Scope} {cl : List (PySem.Str × Addr)} {pos : Pos} {S : Src} {Φ : List V → AH → Prop} {B : Addr → Option Obj} {A : Around} {s : Shared} {E : Value → Shared → Prop} {env : Env} {it : Addr} {RR : Value → Addr → Result → Shared → Prop}
    (he : EnvOk sc env) (hA : Room n A) (ok : CompOk scope sc x) (hcl : ∀ y c, cl.lookup y = some c → env.cells.lookup y = some c) (hcf : ∀ y ∈ scope.names, y.2 = .free → (cl.lookup y.1).isSome = true)
    (hR : HR X B H s.heap) (hF : FR B env ρ s.heap) (hit : ItAt s.heap it S 0) (hB : B it = none) (k : Nat) (hp : Cp X (relab scope sc) n x ifs elt S (seen scope ρ) Φ k 0 H [])
    (fin : ∀ acc H' h' tk D C xs m, Φ acc H' → HR X B H' h' → FR B env ρ h' → TK s.heap h' → IsL h' D xs m → VRs h' acc xs.toList → (∃ m, h'.Ns C m) → B D = none → H' D = none → B C = none → C ≠ env.locals → D ≠ C → RR (.ref D) C (.ok .next) { s with heap := h', toks := tk }) :
    wpAny (model X.prog X.w) A (newList []) (fun acc s₃ => wpAny (model X.prog X.w) A (newFunctionEnv scope env.globals cl [] env.qual none .none (some env)) (fun cenv s₄ =>
      codeAny (model X.prog X.w) A (.compStart (.ListComp elt [⟨.Name x px, iter, ifs, 0⟩] scope pos) 0 (.ref it) acc { cenv with scope := relabel scope env }) (RR acc cenv.locals) s₄) E s₃) E s := by
  refine wpAny_newObj_type (wpAny_newFunctionEnv ok.cell (by intro y hy; simp at hy) (fun h₂ hn₂ hs₂ => ?_) ok.kind)
  dsimp only at hn₂ hs₂ ⊢
  generalize hH1 : s.heap.push { cls := .type "list", dict := none, data := .seq ([] : List Value).toArray } = h₁ at hn₂ hs₂ ⊢
  have hD : h₁.get? s.heap.objs.size = some { cls := .type "list", dict := none, data := .seq ([] : List Value).toArray } := hH1 ▸ Heap.get?_push_size _ rfl
  have hsz : h₁.objs.size = s.heap.objs.size + 1 := by rw [← hH1, Heap.size_push]
  have x1 : Ext s.heap h₁ := hH1 ▸ Ext.push _ _
  have x2 : Ext h₁ h₂ := fun b o e => hs₂.extBut b o (Nat.ne_of_lt (Heap.lt_size e)) (Heap.get?_push_of_some _ e)
  have xx := x1.trans x2
  have bound : ∀ a o, s.heap.get? a = some o → a < s.heap.objs.size := fun a o e => Heap.lt_size e
  have hHD : H s.heap.objs.size = none := by
    cases q : H s.heap.objs.size with
    | none => rfl
    | some vs => obtain ⟨_, xs, m, hl, _⟩ := hR.cell _ _ q; exact absurd (Heap.lt_size (show s.heap.get? _ = some _ from hl)) (Nat.lt_irrefl _)
  have hCgt : s.heap.objs.size < h₁.objs.size := by rw [hsz]; exact Nat.lt_succ_self _
  have c : CS X B env ρ S s.heap it s.heap.objs.size h₁.objs.size H h₂ 0 [] := {
    r := hR.ext xx
    f := hF.ext hR xx
    tk := xx.tk
    item := hit.keep (by obtain ⟨o, fs, ho, _⟩ := hit.odd.at_; rw [ho]; exact xx _ _ ho)
    lst := ⟨_, 0, x2 _ _ hD, .nil⟩
    ns := ⟨_, hn₂⟩
    bi := hB
    bd := hR.newB
    bc := hR.newB' (Nat.le_of_lt hCgt)
    hd := hHD
    cl := fun z => by
      obtain ⟨m, hm, _⟩ := hF.ns
      obtain ⟨o, _, _, ho, _⟩ := hm
      have h1 : env.locals < s.heap.objs.size := Heap.lt_size ho
      have h2 : s.heap.objs.size < env.locals := z ▸ hCgt
      exact absurd h1 (Nat.not_lt_of_gt h2)
    root := fun b o e z => by
      have h1 : b < s.heap.objs.size := Heap.lt_size (hR.ext₀ b o e)
      have h2 : s.heap.objs.size < b := z ▸ hCgt
      exact absurd h1 (Nat.not_lt_of_gt h2) }
  have loop : ∀ s₃ : Shared, s₃ = { s with heap := h₂, toks := s.toks + ([] : List (PySem.Str × Value)).length } →
      codeAny (model X.prog X.w) A (.compLoop (.ListComp elt [⟨.Name x px, iter, ifs, 0⟩] scope pos) 0 (.ref it) (.ref s.heap.objs.size) (compEnvC scope cl h₁.objs.size env)) (RR (.ref s.heap.objs.size) h₁.objs.size) s₃ := by
    rintro s₃ rfl
    refine comp_loop (h₁ := s.heap) he hA ok hcl hcf c k hp fun acc H' h' tk i hΦ hc => ?_
    have hDC : s.heap.objs.size ≠ h₁.objs.size := Nat.ne_of_lt hCgt
    rcases hc with c' | ⟨h₀, c', e⟩
    · obtain ⟨xs, m, hl, hv⟩ := c'.lst
      exact fin acc H' h' tk _ _ xs m hΦ c'.r c'.f c'.tk hl hv c'.ns c'.bd c'.hd c'.bc c'.cl hDC
    · obtain ⟨r, f, t, ⟨xs, m, hl, hv⟩, hn⟩ := c'.drop e
      exact fin acc H' h' tk _ _ xs m hΦ r f t hl hv hn c'.bd c'.hd c'.bc c'.cl hDC
  refine codeAny_compStart_list (loop _ rfl) ?_
  have hself : ∀ {Q : Value → Shared → Prop} {E' : Value → Shared → Prop} (s₃ : Shared), s₃ = { s with heap := h₂, toks := s.toks + ([] : List (PySem.Str × Value)).length } → Q (.ref it) s₃ → wpAny (model X.prog X.w) A (pyIter (.ref it)) Q E' s₃ := by
    rintro Q E' s₃ rfl hq
    have hi := c.item
    cases S with
    | lst a => exact wpAny_pyIter_listiter hi hq
    | rng lo m => exact (Walks.range hA.1 it lo 1 m).self 0 _ _ _ (by
        have : IsRangeIter h₂ it (lo + ((0 : Nat) : Int)) ((m : Int) - ((0 : Nat) : Int)) 1 := hi
        show IsRangeIter h₂ it (lo + ((0 : Nat) : Int) * 1) ((m : Int) - ((0 : Nat) : Int)) 1
        simpa using this) hq
  exact hself _ rfl (loop _ rfl)

theorem clEx {env : Env} {scope : Scope} {x : PySem.Str} {B : Addr → Option Obj} {h : Heap} (he : EnvOk sc env) (ok : CompOk scope sc x) (hF : FR B env ρ h) :
    ∃ cl, closureFor scope env = pure cl ∧ (∀ y c, cl.lookup y = some c → env.cells.lookup y = some c) ∧ ∀ x ∈ scope.names, x.2 = .free → (cl.lookup x.1).isSome = true :=
  closure_ex fun y hy e => by
    obtain ⟨c, o, hc, _⟩ := hF.slot y.1 (by rw [Env.kindOf, he.scope]; exact ok.free y hy e)
    exact ⟨c, hc⟩

theorem Ev_ListComp {elt iter : Expr} {x : PySem.Str} {px : Pos} {ifs : List Expr} {scope : Scope} {pos : Pos} {Φ : V → AH → Prop} (hok : compOkB scope sc x = true)
    (h : It X sc n iter ρ H fun S H₁ => ∃ k, Cp X (relab scope sc) n x ifs elt S (seen scope ρ) (fun acc H₂ => ∀ a, H₂ a = none → Φ (.ref a) (upd H₂ a acc)) k 0 H₁ [])
    (hs : ∀ env v, foldedSetIterable iter env v = pure v := by intro _ _; rfl) : Ev X sc n (.ListComp elt [⟨.Name x px, iter, ifs, 0⟩] scope pos) ρ H Φ := by
  intro env B A s Q E he hA hR hF q
  have ok := compOk_of hok
  obtain ⟨cl, hclos, hcl, hcf⟩ := clEx he ok hF
  rw [eval_ListComp]
  refine wpAny_comprehension_free (use := none) rfl (hs env) hclos ok.kind ok.locs ?_
  refine h env B A s _ E he hA hR hF fun S it H₁ h₁ tk₁ p₁ hit hB R₁ F₁ t₁ => ?_
  obtain ⟨k, p₁⟩ := p₁
  refine comp_block (RR := fun acc C => compPost (model X.prog X.w) A E none Q acc C) he hA ok hcl hcf R₁ F₁ hit hB k p₁ fun acc H' h' tk D C xs m hΦ r f t hl hv hn hBD hHD hBC hCl hDC => ?_
  obtain ⟨mC, hnC⟩ := hn
  refine ⟨mC, hnC, fun h'' hs'' => ?_⟩
  have t2 : TK h' h'' := TK.sameBut hs'' fun xs y => tup_not_ns y hnC
  have r2 : HR X B (upd H' D acc) h'' := by
    refine ⟨r.ok, r.root, fun b o e => (hs''.2 b fun z => by subst z; rw [hBC] at e; cases e).trans (r.keep b o e), fun a vs e => ?_⟩
    by_cases z : a = D
    · subst z; rw [upd_same] at e; cases e
      exact ⟨hBD, xs, m, (hs''.2 a hDC).trans hl, hv.mono t2⟩
    · rw [upd_ne z] at e
      obtain ⟨h1, ys, j, hl', hv'⟩ := r.cell a vs e
      exact ⟨h1, ys, j, (hs''.2 a fun z => by subst z; exact ns_not_list hnC hl').trans hl', hv'.mono t2⟩
  have f2 : FR B env ρ h'' := f.move (fun m hm => hm.sameBut hs'' (Ne.symm hCl)) (fun cc v hc => hc.sameBut hs'' fun z => by subst z; exact cell_not_ns hc hnC) t2
  exact q (.ref D) _ _ h'' tk (hΦ D hHD) (.ref _) r2 f2 (t₁.trans (t.trans t2))

theorem St_AssignComp {elt iter : Expr} {x y : PySem.Str} {px py : Pos} {ifs : List Expr} {scope : Scope} {pos spos : Pos} {Φ : F → AL → AH → Prop} (hok : compOkB scope sc x = true) (hy : sc.names.lookup y = some .local)
    (h : It X sc n iter ρ H fun S H₁ => ∃ k, Cp X (relab scope sc) n x ifs elt S (seen scope ρ) (fun acc H₂ => ∀ a, H₂ a = none → Φ .next (put ρ y (.ref a)) (upd H₂ a acc)) k 0 H₁ [])
    (hsw : ∀ env, EnvOk sc env → swapsWith (.ListComp elt [⟨.Name x px, iter, ifs, 0⟩] scope pos) (some (.Name y py)) spos.line env = pure true := by walk_at "env")
    (hs : ∀ env v, foldedSetIterable iter env v = pure v := by intro _ _; rfl) : St X sc n (.Assign [.Name y py] (.ListComp elt [⟨.Name x px, iter, ifs, 0⟩] scope pos) spos) ρ H Φ := by
  intro env B A s Q E he hf hA hR hF q
  have ok := compOk_of hok
  obtain ⟨cl, hclos, hcl, hcf⟩ := clEx he ok hF
  rw [exec_Assign_Name_used _ _ _ _ (hsw env he)]
  refine wpAny_bind (wpAny_standAt (wpAny_bind ?_))
  show wpAny _ A (do let _ ← comprehension (.ListComp elt [⟨.Name x px, iter, ifs, 0⟩] scope pos) scope env _ (newList []) false (eval iter env) (some (assign (.Name y py) env))) _ _ s
  refine wpAny_bind (wpAny_mono (wpAny_comprehension_free (use := some (assign (.Name y py) env)) (Q := fun _ s' => Q .next s') rfl (hs env) hclos ok.kind ok.locs ?_) (fun _ s' hq => wpAny_pure (wpAny_pure hq)) fun _ _ e => e)
  refine h env B A s _ E he hA hR hF fun S it H₁ h₁ tk₁ p₁ hit hB R₁ F₁ t₁ => ?_
  obtain ⟨k, p₁⟩ := p₁
  refine comp_block (RR := fun acc C => compPost (model X.prog X.w) A E (some (assign (.Name y py) env)) (fun _ s' => Q .next s') acc C) he hA ok hcl hcf R₁ F₁ hit hB k p₁ fun acc H' h' tk D C xs m hΦ r f t hl hv hn hBD hHD hBC hCl hDC => ?_
  obtain ⟨mC, hnC⟩ := hn
  show wpAny _ A (assign (.Name y py) env (.ref D)) _ _ _
  obtain ⟨oC, esC, epC, hoC, hCd⟩ := id hnC
  have r1 : HR X B (upd H' D acc) h' := by
    refine ⟨r.ok, r.root, r.keep, fun a vs e => ?_⟩
    by_cases z : a = D
    · subst z; rw [upd_same] at e; cases e
      exact ⟨hBD, xs, m, hl, hv⟩
    · rw [upd_ne z] at e; exact r.cell a vs e
  refine PyProof.Rows.assign_Name (store he (.inr hy) (by unfold isOwn; rw [hy]) r1 f (.ref D) fun h₂ tk₂ r₂ f₂ t₂ hx => ?_)
  have hnC₂ : h₂.Ns C mC := by
    rcases hx with ⟨_, hx⟩ | hx
    · exact hnC.extBut hx hCl
    · rw [hy] at hx; cases hx
  refine ⟨mC, hnC₂, fun h₃ hs₃ => ?_⟩
  have t3 : TK h₂ h₃ := TK.sameBut hs₃ fun xs y => tup_not_ns y hnC₂
  have r3 : HR X B (upd H' D acc) h₃ := by
    refine ⟨r₂.ok, r₂.root, fun b o e => (hs₃.2 b fun z => by subst z; rw [hBC] at e; cases e).trans (r₂.keep b o e), fun a vs e => ?_⟩
    obtain ⟨h1, ys, j, hl', hv'⟩ := r₂.cell a vs e
    exact ⟨h1, ys, j, (hs₃.2 a fun z => by subst z; exact ns_not_list hnC₂ hl').trans hl', hv'.mono t3⟩
  have f3 : FR B env (put ρ y (.ref D)) h₃ := f₂.move (fun m hm => hm.sameBut hs₃ (Ne.symm hCl)) (fun cc v hc => hc.sameBut hs₃ fun z => by subst z; exact cell_not_ns hc hnC₂) t3
  exact q .next _ _ _ h₃ tk₂ (hΦ D hHD) .next r3 f3 (t₁.trans (t.trans (t₂.trans t3)))
end
section
variable {X : X0} {sc : Scope} {n : Nat} {ρ : AL} {H : AH}

theorem HR.newAt {B : Addr → Option Obj} {h h' : Heap} {D : Addr} (r : HR X B H h) (x : Ext h h') (hD : h.objs.size ≤ D) {vs : List V} {xs : Array Value} {m : Nat} (hl : IsL h' D xs m) (hv : VRs h' vs xs.toList) :
    H D = none ∧ HR X B (upd H D vs) h' := by
  have hH : H D = none := by
    cases q : H D with
    | none => rfl
    | some ws => obtain ⟨_, ys, k, hl', _⟩ := r.cell D ws q; exact absurd (Heap.lt_size (show h.get? D = _ from hl')) (Nat.not_lt.mpr hD)
  have r' := r.ext x
  refine ⟨hH, r'.ok, r'.root, r'.keep, fun a ws e => ?_⟩
  by_cases z : a = D
  · subst z; rw [upd_same] at e; cases e
    exact ⟨r.newB' hD, xs, m, hl, hv⟩
  · rw [upd_ne z] at e; exact r'.cell a ws e

variable {Φ : V → AH → Prop}

theorem call_len {a : Addr} {vs : List V} (hl : H a = some vs) (hfit : (vs.length : Int) < 2 ^ 63) (h : Φ (.int vs.length) H) : Calls X n (.builtin "len") [.ref a] H Φ := by
  intro B A s Q E cvs hA hR hv k
  obtain rfl := hv.ref1
  obtain ⟨xs, m, hL, hx⟩ := hR.lst hl
  have e : (xs.size : Int) = vs.length := by rw [hx.size]
  refine call_len_list hL.isList (by rw [e]; exact hfit) ?_
  rw [e]; exact k _ _ H s.heap _ h (.int _ _) hR (TK.refl _)

theorem call_abs {i : Int} (h : Φ (.int (i.natAbs : Int)) H) : Calls X n (.builtin "abs") [.int i] H Φ := by
  intro B A s Q E cvs hA hR hv k
  obtain ⟨_, rfl⟩ := hv.int1
  refine call_abs_int fun u tk => ?_
  have e : (if i < 0 then -i else i) = (i.natAbs : Int) := by split <;> omega
  rw [e]; exact k _ _ H s.heap tk h (.int _ _) hR (TK.refl _)

theorem call_list {a : Addr} {vs : List V} (hl : H a = some vs) (hfit : vs.length ≤ sizeLine) (h : ∀ b, H b = none → Φ (.ref b) (upd H b vs)) : Calls X n (.type "list") [.ref a] H Φ := by
  intro B A s Q E cvs hA hR hv k
  obtain rfl := hv.ref1
  obtain ⟨xs, m, hL, hx⟩ := hR.lst hl
  refine call_list_seq a (.inl rfl) hL rfl rfl (fun h' c' x hD => ?_) (by rw [← hx.size]; exact hfit)
  obtain ⟨hn, R⟩ := hR.newAt x (Nat.le_refl _) hD (hx.mono (Ext.tk x))
  exact k _ _ _ h' s.toks (h _ hn) (.ref _) R (Ext.tk x)

theorem op_addlist {a b : Addr} {vs ws : List V} (ha : H a = some vs) (hb : H b = some ws) (hfit : vs.length + ws.length ≤ sizeLine) (h : ∀ c, H c = none → Φ (.ref c) (upd H c (vs ++ ws))) : Op X n (bin .Add) [.ref a, .ref b] H Φ := by
  intro B A s Q E cvs hA hR hv k
  obtain rfl := hv.ref2
  obtain ⟨xs, m, hL, hx⟩ := hR.lst ha
  obtain ⟨ys, m', hL', hy⟩ := hR.lst hb
  have x := Ext.push s.heap { cls := .type "list", data := .seq (xs ++ ys) }
  refine PySem.P.add_list hL hL' ?_ (by rw [← hx.size, ← hy.size]; exact hfit)
  obtain ⟨hn, R⟩ := hR.newAt x (Nat.le_refl _) (xs := xs ++ ys) (m := 0) (vs := vs ++ ws) (Heap.get?_push_size _ rfl) (by rw [Array.toList_append]; exact VRs.append (hx.mono (Ext.tk x)) (hy.mono (Ext.tk x)))
  exact k _ _ _ _ s.toks (h _ hn) (.ref _) R (Ext.tk x)

theorem foldl_rep {α : Type} (items : Array α) : ∀ (k : Nat) (acc : Array α), (List.foldl (fun x1 x2 => x1 ++ x2) acc (List.replicate k items)).toList = acc.toList ++ (List.replicate k items.toList).flatten
  | 0, acc => by simp
  | k + 1, acc => by
    rw [List.replicate_succ, List.foldl_cons, foldl_rep items k]
    simp [List.replicate_succ]

theorem VRs.rep {h : Heap} {v : V} {c : Value} (q : VR h v c) : ∀ k : Nat, VRs h (List.replicate k v) (List.replicate k [c]).flatten
  | 0 => .nil
  | k + 1 => by rw [List.replicate_succ, List.replicate_succ, List.flatten_cons]; exact .cons q (VRs.rep q k)

/-- a list of one item, many times -/
theorem op_mul1 {a : Addr} {v : V} {i : Int} (ha : H a = some [v]) (h0 : 0 ≤ i) (hi : i ≤ 2 ^ 24) (h : ∀ c, H c = none → Φ (.ref c) (upd H c (List.replicate i.toNat v))) : Op X n (bin .Mult) [.ref a, .int i] H Φ := by
  intro B A s Q E cvs hA hR hv k
  obtain ⟨u, rfl⟩ := hv.refint
  obtain ⟨xs, m, hL, hx⟩ := hR.lst ha
  obtain ⟨c, hc, q⟩ := hx.one
  have hsz : xs.size = 1 := by rw [← Array.length_toList, hc]; rfl
  have hL' : s.heap.get? a = some { cls := .type "list", dict := none, data := .seq xs m, slots := #[] } := hL
  have x := Ext.push s.heap { cls := .type "list", data := .seq (List.foldl (fun x1 x2 => x1 ++ x2) #[] (List.replicate (if xs.isEmpty = true then 0 else i.toNat) xs)) }
  have hne : xs.isEmpty = false := by
    cases e : xs.isEmpty with
    | false => rfl
    | true => rw [Array.isEmpty_iff_size_eq_zero, hsz] at e; cases e
  refine wpAny_binaryOp_repeat_ref (T := "list") (U := "int") (by decide) ⟨_, hL', rfl⟩ (fun s' => typeIs_int s' i u) noFill_list_mul F.fills_int_mul F.slot_int_rmul repeat_list F.slot_int_index.lookup
    (call_meets F.slot_int_rmul (typeIs_int s i u) F.entry_int_rmul (F.args_int_rmul_2 _ _) (int___rmul___int_list i u a xs m)
      ⟨hL', rfl, ⟨_, hL', rfl⟩, call_meets F.slot_list_mul ⟨_, hL', rfl⟩ F.entry_list_mul (F.args_list_mul_2 _ _)
        (AutoListH.list___mul___list_int_3 a xs m i u (by simp [Builtin.List.listFitsIndex]; omega) (by rw [hsz]; omega) (by rw [hsz]; simp [Builtin.List.listTooLong, sizeLine]; omega))
        ⟨hL', ?_⟩⟩)
  obtain ⟨hn, R⟩ := hR.newAt x (Nat.le_refl _) (m := 0) (vs := List.replicate i.toNat v) (Heap.get?_push_size _ rfl) (by
    have e : (List.foldl (fun x1 x2 => x1 ++ x2) #[] (List.replicate (if xs.isEmpty = true then 0 else i.toNat) xs)).toList = (List.replicate i.toNat [c]).flatten := by
      rw [foldl_rep, hne, hc]; rfl
    rw [e]
    exact VRs.rep (q.mono (Ext.tk x)) i.toNat)
  exact k _ _ _ _ s.toks (h _ hn) (.ref _) R (Ext.tk x)

/-! ### slices -/
theorem Ev_upto {value up : Expr} {p pos : Pos} (h : Ev X sc n value ρ H fun o H₁ => Ev X sc n up ρ H₁ fun u H₂ => ∃ a vs i, o = .ref a ∧ u = .int i ∧ 0 ≤ i ∧ H₂ a = some vs ∧ vs.length ≤ sizeLine ∧ ∀ c, H₂ c = none → Φ (.ref c) (upd H₂ c (vs.take i.toNat)))
    (ht : ∀ o r, letTemporaryGo value o r = pure () := by intro _ _; rfl) : Ev X sc n (.Subscript value (.Slice none (some up) none p) pos) ρ H Φ := by
  intro env B A s Q E he hA hR hF k
  refine wpAny_Subscript_list_slice (h env B A s _ E he hA hR hF fun o co H₁ h₁ tk₁ p₁ v₁ R₁ F₁ t₁ => ?_) ht
  rw [evalPart_none]
  refine wpAny_pure ?_
  rw [evalPart_some]
  refine p₁ env B A _ _ E he hA R₁ F₁ fun u cu H₂ h₂ tk₂ p₂ v₂ R₂ F₂ t₂ => ?_
  obtain ⟨a, vs, i, rfl, rfl, h0, hl, hsz, p⟩ := p₂
  obtain rfl := v₁.refInv
  obtain ⟨t, rfl⟩ := v₂.intInv
  obtain ⟨xs, m, hL, hx⟩ := R₂.lst hl
  have hlen := hx.size
  refine ⟨a, xs, none, some i, rfl, hL.isList, by rw [← hlen]; exact hsz, .none, .int i t, ?_⟩
  have x := Ext.trans (Ext.push h₂ { cls := .type "slice", data := .fields #[.none, .int i t, .none] }) (Ext.push _ { cls := .type "list", data := .seq (slicePick xs none (some i) none) })
  obtain ⟨j, rfl⟩ := Int.eq_ofNat_of_zero_le h0
  obtain ⟨hn, R⟩ := R₂.newAt x (D := h₂.objs.size + 1) (Nat.le_succ _) (m := 0) (xs := slicePick xs none (some (j : Int)) none) (vs := vs.take j) (by
    have := Heap.get?_push_size (h₂.push { cls := .type "slice", data := .fields #[.none, .int (j : Int) t, .none] }) (o := { cls := .type "list", data := .seq (slicePick xs none (some (j : Int)) none) }) rfl
    rw [Heap.size_push] at this; exact this) (by
    have e : (slicePick xs none (some (j : Int)) none).toList = xs.toList.take j := by rw [slicePick_upto']
    rw [e]; exact (hx.mono (Ext.tk x)).take j)
  exact k _ _ _ _ tk₂ (p _ hn) (.ref _) R (F₂.ext R₂ x) (t₁.trans (t₂.trans (Ext.tk x)))

theorem Ev_from {value lo : Expr} {p pos : Pos} (h : Ev X sc n value ρ H fun o H₁ => Ev X sc n lo ρ H₁ fun u H₂ => ∃ a vs i, o = .ref a ∧ u = .int i ∧ 0 ≤ i ∧ H₂ a = some vs ∧ vs.length ≤ sizeLine ∧ ∀ c, H₂ c = none → Φ (.ref c) (upd H₂ c (vs.drop i.toNat)))
    (ht : ∀ o r, letTemporaryGo value o r = pure () := by intro _ _; rfl) : Ev X sc n (.Subscript value (.Slice (some lo) none none p) pos) ρ H Φ := by
  intro env B A s Q E he hA hR hF k
  refine wpAny_Subscript_list_slice (h env B A s _ E he hA hR hF fun o co H₁ h₁ tk₁ p₁ v₁ R₁ F₁ t₁ => ?_) ht
  rw [evalPart_some]
  refine p₁ env B A _ _ E he hA R₁ F₁ fun u cu H₂ h₂ tk₂ p₂ v₂ R₂ F₂ t₂ => ?_
  rw [evalPart_none]
  refine wpAny_pure ?_
  obtain ⟨a, vs, i, rfl, rfl, h0, hl, hsz, p⟩ := p₂
  obtain rfl := v₁.refInv
  obtain ⟨t, rfl⟩ := v₂.intInv
  obtain ⟨xs, m, hL, hx⟩ := R₂.lst hl
  have hlen := hx.size
  refine ⟨a, xs, some i, none, rfl, hL.isList, by rw [← hlen]; exact hsz, .int i t, .none, ?_⟩
  have x := Ext.trans (Ext.push h₂ { cls := .type "slice", data := .fields #[.int i t, .none, .none] }) (Ext.push _ { cls := .type "list", data := .seq (slicePick xs (some i) none none) })
  obtain ⟨j, rfl⟩ := Int.eq_ofNat_of_zero_le h0
  obtain ⟨hn, R⟩ := R₂.newAt x (D := h₂.objs.size + 1) (Nat.le_succ _) (m := 0) (xs := slicePick xs (some (j : Int)) none none) (vs := vs.drop j) (by
    have := Heap.get?_push_size (h₂.push { cls := .type "slice", data := .fields #[.int (j : Int) t, .none, .none] }) (o := { cls := .type "list", data := .seq (slicePick xs (some (j : Int)) none none) }) rfl
    rw [Heap.size_push] at this; exact this) (by
    have e : (slicePick xs (some (j : Int)) none none).toList = xs.toList.drop j := by rw [slicePick_from']
    rw [e]; exact (hx.mono (Ext.tk x)).drop j)
  exact k _ _ _ _ tk₂ (p _ hn) (.ref _) R (F₂.ext R₂ x) (t₁.trans (t₂.trans (Ext.tk x)))

/-! ### equality of data -/
mutual
inductive RD (H : AH) : V → PyData → Prop
  | none : RD H .none .none
  | int (i) : RD H (.int i) (.int i)
  | tup {vs ds} : RDs H vs ds → RD H (.tup vs) (.tuple ds)
  | lst {a vs ds} : H a = some vs → RDs H vs ds → RD H (.ref a) (.list ds)
inductive RDs (H : AH) : List V → List PyData → Prop
  | nil : RDs H [] []
  | cons {v vs d ds} : RD H v d → RDs H vs ds → RDs H (v :: vs) (d :: ds)
end

mutual
theorem RD.reads {B : Addr → Option Obj} {h : Heap} (r : HR X B H h) : ∀ {v : V} {d : PyData} {c : Value}, RD H v d → VR h v c → ∃ as, Reads h c d as
  | _, _, _, .none, .none => ⟨_, Reads.none⟩
  | _, _, _, .int i, .int _ t => ⟨_, Reads.int i t⟩
  | _, _, _, .tup q, .tup ht hv => by
    obtain ⟨as, x⟩ := RDs.reads r q hv
    obtain ⟨o, ho, hc, m, hd⟩ := ht
    exact ⟨_, Reads.tuple ho hc hd x⟩
  | _, _, _, .lst hl q, .ref _ => by
    obtain ⟨xs, m, hL, hx⟩ := r.lst hl
    obtain ⟨as, x⟩ := RDs.reads r q hx
    exact ⟨_, Reads.list hL rfl rfl x⟩
theorem RDs.reads {B : Addr → Option Obj} {h : Heap} (r : HR X B H h) : ∀ {v : List V} {d : List PyData} {c : List Value}, RDs H v d → VRs h v c → ∃ as, ReadsAll h c d as
  | _, _, _, .nil, .nil => ⟨_, ReadsAll.nil⟩
  | _, _, _, .cons q qs, .cons v vs => by
    obtain ⟨as, x⟩ := RD.reads r q v
    obtain ⟨bs, y⟩ := RDs.reads r qs vs
    exact ⟨_, ReadsAll.cons x y⟩
end

theorem op_eq {a b : V} {da db : PyData} (ra : RD H a da) (rb : RD H b db) (ha : SeqAt.shaped da = true) (hb : SeqAt.shaped db = true) (h : Φ (.bool (PyData.eqv da db)) H) : Op X n (cmp .Eq) [a, b] H Φ := by
  intro B A s Q E cvs hA hR hv k
  obtain ⟨_, _, rfl, va, vb⟩ := hv.two
  obtain ⟨as, x⟩ := ra.reads hR va
  obtain ⟨bs, y⟩ := rb.reads hR vb
  exact eq_dataH x y ha hb hA.units (k _ _ H s.heap s.toks h (.bool _) hR (TK.refl _))
theorem op_ne {a b : V} {da db : PyData} (ra : RD H a da) (rb : RD H b db) (ha : SeqAt.shaped da = true) (hb : SeqAt.shaped db = true) (h : Φ (.bool (!PyData.eqv da db)) H) : Op X n (cmp .NotEq) [a, b] H Φ := by
  intro B A s Q E cvs hA hR hv k
  obtain ⟨_, _, rfl, va, vb⟩ := hv.two
  obtain ⟨as, x⟩ := ra.reads hR va
  obtain ⟨bs, y⟩ := rb.reads hR vb
  exact ne_dataH x y ha hb hA.units (k _ _ H s.heap s.toks h (.bool _) hR (TK.refl _))

/-! ### an int in a list of ints -/
def isI (k : Int) : Value → Bool
  | .int i _ => i == k
  | _ => false
theorem ints_inv {h : Heap} : ∀ {ns : List Int} {xs : List Value}, VRs h (ns.map .int) xs → IntsAre xs ns
  | [], _, .nil => .nil
  | n :: r, _, .cons (.int _ t) q => .cons n t (ints_inv q)
theorem isI_gives {k : Int} {t : Tok} : ∀ {ns : List Int} {xs : List Value}, IntsAre xs ns → ∀ y ∈ xs, MeetsSeq.EqGives y (.int k t) (isI k y)
  | _, _, .cons n u q, y, hy => by
    rcases List.mem_cons.mp hy with rfl | hy
    · exact MeetsSeq.EqGives.int n k u t
    · exact isI_gives q y hy
theorem isI_any {k : Int} : ∀ {ns : List Int} {xs : List Value}, IntsAre xs ns → xs.any (isI k) = ns.contains k
  | _, _, .nil => rfl
  | _, _, .cons n u q => by
    rw [List.any_cons, List.contains_cons, isI_any q]
    show (n == k || _) = (k == n || _)
    congr 1
    exact Bool.eq_iff_iff.mpr ⟨fun e => by simpa using (beq_iff_eq.mp e).symm, fun e => by simpa using (beq_iff_eq.mp e).symm⟩

theorem op_in {a : Addr} {ns : List Int} {k : Int} (hl : H a = some (ns.map .int)) (h : Φ (.bool (ns.contains k)) H) : Op X n (cmp .In) [.int k, .ref a] H Φ := by
  intro B A s Q E cvs hA hR hv q
  obtain ⟨_, rfl⟩ := hv.intref
  obtain ⟨xs, m, hL, hx⟩ := hR.lst hl
  have hi := ints_inv hx
  refine SeqRoads2.in_list (isI k) (fun y hy => isI_gives hi y (by simpa using hy)) hL ?_
  rw [← Array.any_toList, isI_any hi]
  exact q _ _ H s.heap s.toks h (.bool _) hR (TK.refl _)
theorem op_notin {a : Addr} {ns : List Int} {k : Int} (hl : H a = some (ns.map .int)) (h : Φ (.bool (!ns.contains k)) H) : Op X n (cmp .NotIn) [.int k, .ref a] H Φ := by
  intro B A s Q E cvs hA hR hv q
  obtain ⟨_, rfl⟩ := hv.intref
  obtain ⟨xs, m, hL, hx⟩ := hR.lst hl
  have hi := ints_inv hx
  refine SeqRoads2.notIn_list (isI k) (fun y hy => isI_gives hi y (by simpa using hy)) hL ?_
  rw [← Array.any_toList, isI_any hi]
  exact q _ _ H s.heap s.toks h (.bool _) hR (TK.refl _)

/-! ### methods of lists -/
theorem method_list {o : Expr} {name : PySem.Str} {id : String} {apos pos : Pos} {arg : Expr} {env : Env} {A : Around} {s : Shared} {Q : Value → Shared → Prop} {E : Value → Shared → Prop}
    (hbase : attributeBase o name env (eval o env) = eval o env) (harg : starEach [arg] env = [(false, eval arg env)]) (hline : (apos.endLine == pos.line) = true)
    (slot : Slot "list" name id) (hty : typeOf (.builtin id) = pure (.type "method_descriptor"))
    (h : wpAny (model X.prog X.w) A (eval o env) (fun ov s₁ => ∃ a xs m, ov = .ref a ∧ IsL s₁.heap a xs m ∧
      wpAny (model X.prog X.w) A (callWith pos (.builtin id) [.ref a] [(false, eval arg env)] []) Q E s₁) E s) :
    wpAny (model X.prog X.w) A (eval (.Call (.Attribute o name apos) [arg] [] pos) env) Q E s := by
  have hb : backTo pos (starEach [arg] env) = [(false, eval arg env)] := by rw [harg]; rfl
  refine wpAny_Call_method hbase (by rw [hb]; rfl) hline F.plainAttrs_list slot hty (wpAny_mono h (fun ov s₁ h₁ => ?_) fun _ _ x => x)
  obtain ⟨a, xs, m, rfl, hL, hc⟩ := h₁
  refine ⟨⟨_, hL, rfl⟩, fun b e => ?_, by rw [hb]; exact hc⟩
  cases e; exact ⟨_, hL, rfl⟩

theorem Ev_append {o arg : Expr} {apos pos : Pos} (h : Ev X sc n o ρ H fun ov H₁ => ∃ a, ov = .ref a ∧ (H₁ a).isSome = true ∧ Ev X sc n arg ρ H₁ fun v H₂ => ∃ vs, H₂ a = some vs ∧ vs.length ≤ sizeLine ∧ Φ .none (upd H₂ a (vs ++ [v])))
    (hbase : ∀ env, attributeBase o (PySem.Str.ofString "append") env (eval o env) = eval o env := by intro _; rfl) (harg : ∀ env, starEach [arg] env = [(false, eval arg env)] := by intro _; rfl) (hline : (apos.endLine == pos.line) = true := by rfl) :
    Ev X sc n (.Call (.Attribute o (PySem.Str.ofString "append") apos) [arg] [] pos) ρ H Φ := by
  intro env B A s Q E he hA hR hF k
  refine method_list (hbase env) (harg env) hline F.slot_list_append F.type_list_append (h env B A s _ E he hA hR hF fun ov co H₁ h₁ tk₁ p₁ v₁ R₁ F₁ t₁ => ?_)
  obtain ⟨a, rfl, hs, p₁⟩ := p₁
  obtain rfl := v₁.refInv
  obtain ⟨us, hus⟩ := Option.isSome_iff_exists.mp hs
  obtain ⟨zs, m₀, hL₀, _⟩ := R₁.lst hus
  refine ⟨a, zs, m₀, rfl, hL₀, PySem.P.append_list (p₁ env B A _ _ E he hA R₁ F₁ fun v cv H₂ h₂ tk₂ p₂ v₂ R₂ F₂ t₂ => ?_)⟩
  obtain ⟨vs, hl, hsz, p⟩ := p₂
  obtain ⟨xs, m, hL, hx⟩ := R₂.lst hl
  refine ⟨xs, m, by rw [← hx.size]; exact hsz, hL, ?_⟩
  have hs' := Heap.SameBut.update h₂ a (Obj.mapSeq fun xs => xs.push cv)
  obtain ⟨t, R⟩ := R₂.setList (vs := vs ++ [v]) hl (IsL.update hL fun xs => xs.push cv) hs' (by rw [Array.toList_push]; exact VRs.append hx (.cons v₂ .nil))
  exact k .none .none _ _ tk₂ p .none R (F₂.setList R₂ hl hs' t) (t₁.trans (t₂.trans t))

theorem Ev_index {o arg : Expr} {apos pos : Pos} (h : Ev X sc n o ρ H fun ov H₁ => ∃ a, ov = .ref a ∧ (H₁ a).isSome = true ∧ Ev X sc n arg ρ H₁ fun v H₂ => ∃ (ns : List Int) (k : Int), v = .int k ∧ H₂ a = some (ns.map .int) ∧ ns.length < 2 ^ 60 ∧ k ∈ ns ∧ Φ (.int (ns.idxOf k : Nat)) H₂)
    (hbase : ∀ env, attributeBase o (PySem.Str.ofString "index") env (eval o env) = eval o env := by intro _; rfl) (harg : ∀ env, starEach [arg] env = [(false, eval arg env)] := by intro _; rfl) (hline : (apos.endLine == pos.line) = true := by rfl) :
    Ev X sc n (.Call (.Attribute o (PySem.Str.ofString "index") apos) [arg] [] pos) ρ H Φ := by
  intro env B A s Q E he hA hR hF q
  refine method_list (hbase env) (harg env) hline F.slot_list_index F.type_list_index (h env B A s _ E he hA hR hF fun ov co H₁ h₁ tk₁ p₁ v₁ R₁ F₁ t₁ => ?_)
  obtain ⟨a, rfl, hs, p₁⟩ := p₁
  obtain rfl := v₁.refInv
  obtain ⟨us, hus⟩ := Option.isSome_iff_exists.mp hs
  obtain ⟨zs, m₀, hL₀, _⟩ := R₁.lst hus
  refine ⟨a, zs, m₀, rfl, hL₀, PySem.P.index_list (p₁ env B A _ _ E he hA R₁ F₁ fun v cv H₂ h₂ tk₂ p₂ v₂ R₂ F₂ t₂ => ?_)⟩
  obtain ⟨ns, k, rfl, hl, hsz, hk, p⟩ := p₂
  obtain ⟨_, rfl⟩ := v₂.intInv
  obtain ⟨xs, m, hL, hx⟩ := R₂.lst hl
  have hi := ints_inv hx
  have hlen : xs.toList.length = ns.length := hi.length
  have hj : ns.idxOf k < ns.length := List.idxOf_lt_length_iff.mpr hk
  have at_ : ∀ (i : Nat) (hi' : i < xs.size), ∃ t', xs[i] = .int (ns[i]'(by simp at hlen; omega)) t' := by
    have gen : ∀ {ys : List Value} {ms : List Int} (_ : IntsAre ys ms) (i : Nat) (h1 : i < ys.length) (h2 : i < ms.length), ∃ t', ys[i] = .int ms[i] t' := by
      intro ys ms hh
      induction hh with
      | nil => intro i h1; simp at h1
      | cons a t _ ih =>
        intro i h1 h2
        cases i with
        | zero => exact ⟨t, rfl⟩
        | succ i => exact ih i (by simpa using h1) (by simpa using h2)
    intro i hi'
    obtain ⟨t', e⟩ := gen hi i (by simpa using hi') (by simp at hlen; omega)
    exact ⟨t', by simpa using e⟩
  refine ⟨xs, m, isI k, ns.idxOf k, by simp at hlen; omega, hL, fun y hy => isI_gives hi y (by simpa using hy), by omega, ?_, fun i hi' hlt => ?_, ?_⟩
  · obtain ⟨t', e⟩ := at_ (ns.idxOf k) (by simp at hlen; omega)
    rw [e]; show (_ == k) = true
    simp
  · obtain ⟨t', e⟩ := at_ i hi'
    rw [e]; show (_ == k) = false
    have := List.not_of_lt_findIdx (p := (· == k)) (xs := ns) (i := i) hlt
    simpa using this
  · exact q _ _ H₂ h₂ _ p (.int _ _) R₂ F₂ (t₁.trans t₂)

theorem VRs_ints {h : Heap} : ∀ {ns : List Int} {xs : List Value}, IntsAre xs ns → VRs h (ns.map .int) xs
  | _, _, .nil => .nil
  | _, _, .cons n t q => .cons (.int n t) (VRs_ints q)

theorem call_sorted {a : Addr} {ns : List Int} (hl : H a = some (ns.map .int)) (h64 : ns.length < 64) (h : ∀ ns' : List Int, ns'.Perm ns → ns'.Pairwise (· ≤ ·) → ∀ b, H b = none → Φ (.ref b) (upd H b (ns'.map .int))) : Calls X n (.builtin "sorted") [.ref a] H Φ := by
  intro B A s Q E cvs hA hR hv k
  obtain rfl := hv.ref1
  obtain ⟨xs, m, hL, hx⟩ := hR.lst hl
  have hi := ints_inv hx
  have hlen : xs.toList.length = ns.length := hi.length
  refine sorted_ints (vs := xs.toList) (ns := ns) (by simpa using hL.isList) hi (by omega) fun out ns' ho hp hs => ?_
  obtain ⟨e, he⟩ := sortedAll_at s.heap xs.toList out
  have x : Ext s.heap (sortedAll s.heap xs.toList out) := fun b o q => sortedAll_old q
  obtain ⟨hn, R⟩ := hR.newAt x (D := s.heap.objs.size + 1) (Nat.le_succ _) (m := e) (xs := out) (vs := ns'.map .int) he (VRs_ints ho)
  exact k _ _ _ _ s.toks (h ns' hp hs _ hn) (.ref _) R (Ext.tk x)

/-! ### a def of the text -/
structure FnAt (X : X0) (f : Addr) (params : Arguments) (body : List Stmt) (scope : Scope) (qual : PySem.Str) : Prop where
  at_ : ∃ o doc pm an cdv ct nm, X.h₀.get? f = some o ∧ o.data = .func (fnX nm qual params body scope [] .none .none doc pm an cdv ct) ∧ X.h₀.CodeRec cdv qual

def fnOkB (scope : Scope) (names : List PySem.Str) : Bool :=
  scope.kind == .function && !scope.isCoroutine && !scope.isGenerator && (names.all fun y => scope.names.lookup y == some .local || scope.names.lookup y == some .cell) && scope.names.all fun y => y.2 != .free

noncomputable def bindA : List (PySem.Str × V) → AL → AL
  | [], m => m
  | (nm, v) :: r, m => bindA r (put m nm v)

theorem bind_rel {kindOf : PySem.Str → Option NameKind} {h : Heap} : ∀ (names : List PySem.Str) (vs : List V) (cvs : List Value), VRs h vs cvs → names.length = vs.length → (∀ x ∈ names, kindOf x = some .local ∨ kindOf x = some .cell) → ∀ (m cm : PySem.Str → Option Value) (ρ : AL),
    (∀ x v, ρ x = some v → (kindOf x = some .local → ∃ cv, m x = some cv ∧ VR h v cv) ∧ (kindOf x = some .cell → ∃ cv, cm x = some cv ∧ VR h v cv)) →
    ∀ x v, bindA (names.zip vs) ρ x = some v → (kindOf x = some .local → ∃ cv, bindL kindOf (names.zip cvs) m x = some cv ∧ VR h v cv) ∧ (kindOf x = some .cell → ∃ cv, bindC kindOf (names.zip cvs) cm x = some cv ∧ VR h v cv)
  | [], _, _, _, _, _, m, cm, ρ, hr => by simpa [bindA, bindL, bindC] using hr
  | nm :: names, [], _, _, hl, _, _, _, _, _ => by simp at hl
  | nm :: names, v :: vs, _, .cons (x := cv) (xs := cvs) q r, hl, hk, m, cm, ρ, hr => by
    have hl' : names.length = vs.length := by simpa using hl
    have hk' : ∀ x ∈ names, kindOf x = some .local ∨ kindOf x = some .cell := fun x hx => hk x (List.mem_cons_of_mem _ hx)
    simp only [List.zip_cons_cons, bindA, bindL, bindC]
    refine bind_rel names vs cvs r hl' hk' _ _ _ fun x w hw => ?_
    unfold put at hw
    by_cases z : x = nm
    · subst z
      rw [if_pos rfl] at hw; cases hw
      rcases hk x List.mem_cons_self with e | e
      · refine And.intro (fun _ => ⟨cv, ?_, q⟩) (fun e' => ?_)
        · simp [e]
        · rw [e] at e'; cases e'
      · refine And.intro (fun e' => ?_) (fun _ => ⟨cv, ?_, q⟩)
        · rw [e] at e'; cases e'
        · simp [e]
    · rw [if_neg z] at hw
      obtain ⟨h1, h2⟩ := hr x w hw
      refine ⟨fun e => ?_, fun e => ?_⟩
      · obtain ⟨c, hc, q⟩ := h1 e
        refine ⟨c, ?_, q⟩
        split
        · simp [z, hc]
        · exact hc
      · obtain ⟨c, hc, q⟩ := h2 e
        refine ⟨c, ?_, q⟩
        split
        · exact hc
        · simp [z, hc]

def F.val : F → V
  | .ret v => v
  | _ => .none

theorem call_def {f : Addr} {params : Arguments} {body : List Stmt} {scope : Scope} {qual : PySem.Str} {names : List PySem.Str} {vs : List V} (hf : FnAt X f params body scope qual)
    (hbind : ∀ nm doc pm an cdv ct (cvs : List Value), cvs.length = names.length → bindArgs (fnX nm qual params body scope [] .none .none doc pm an cdv ct) ⟨cvs, []⟩ = pure (names.zip cvs))
    (hlen : names.length = vs.length) (hok : fnOkB scope names = true)
    (h : Sx X scope n body (bindA (names.zip vs) fun _ => none) H fun fl _ H' => Φ fl.val H') : Calls X (n + 1) (.ref f) vs H Φ := by
  intro B A s Q E cvs hA hR hv k
  obtain ⟨o, doc, pm, an, cdv, ct, nm, ho, hd, hcd⟩ := hf.at_
  unfold fnOkB at hok
  simp only [Bool.and_eq_true, List.all_eq_true, Bool.or_eq_true, beq_iff_eq, bne_iff_ne, ne_eq, Bool.not_eq_true'] at hok
  obtain ⟨⟨⟨⟨hkind, hco⟩, hgen⟩, hnames⟩, hfree⟩ := hok
  have x₀ := hR.ext₀
  refine wpAny_call (codeAny_call_function hA.depth (x₀ _ _ ho) hd hco hgen rfl (hcd.keeps x₀) ?_)
  have hcl : cvs.length = names.length := by rw [hlen]; exact hv.length.symm
  have hb := hbind nm doc pm an cdv ct cvs hcl
  rw [hb]
  have hkX : ∀ n, ∀ x ∈ names.zip cvs, scope.names.lookup x.1 = some .local ∨ (scope.names.lookup x.1 = some .cell ∧ ((cellsFrom n scope.names []).lookup x.1).isSome = true) := by
    refine kindsX ?_
    rw [List.all_eq_true]
    intro x hx
    have := hnames x.1 (List.of_mem_zip hx).1
    simpa using this
  refine wpAny_pure (wpAny_newFunctionEnv_cells hkind (hkX _) fun env he s' x => ?_)
  subst he
  obtain ⟨h₁, tk, rfl, hk₁⟩ := x.done
  have x1 : Ext s.heap h₁ := hk₁
  refine ⟨(hR.ok.lim.keeps x₀).keeps x1, codeAny_func ?_⟩
  have R₁ := hR.all.ext x1
  have hL : allBut H s.heap s.heap.objs.size = none := by
    unfold allBut
    split
    · rfl
    · cases q : s.heap.get? s.heap.objs.size with
      | none => rfl
      | some o => exact absurd (Heap.lt_size q) (Nat.lt_irrefl _)
  have big : ∀ c, s.heap.objs.size < c → allBut H s.heap c = none := fun c hc => by
    unfold allBut
    split
    · rfl
    · cases q : s.heap.get? c with
      | none => rfl
      | some o => exact absurd (Heap.lt_size q) (Nat.not_lt.mpr (Nat.le_of_lt hc))
  have hrel := bind_rel (kindOf := fun y => scope.names.lookup y) (h := h₁) names vs cvs (hv.mono (Ext.tk x1)) hlen (fun y hy => by
      have := hnames y hy; simpa using this) (fun _ => none) (fun _ => none) (fun _ => none) (fun x v e => by cases e)
  have F₁ : FR (allBut H s.heap) (envOfC qual scope s.heap.objs.size f cdv) (bindA (names.zip vs) fun _ => none) h₁ := {
    ns := ⟨_, x.toInCall.ns, fun y v hy hw => (hrel y v hw).1 hy⟩
    fresh := hL
    cell := fun y v hy hw => by
      have hy' : scope.names.lookup y = some .cell := hy.elim id fun e => (hfree _ (mem_of_lookup e) rfl).elim
      obtain ⟨cv, hc, q⟩ := (hrel y v hw).2 hy'
      obtain ⟨c, hcc⟩ := Option.isSome_iff_exists.mp (cellsFrom_some scope.names (s.heap.objs.size + 1) [] (.inl hy'))
      have q2 : h₁.IsCell c (bindC (fun y => scope.names.lookup y) (names.zip cvs) (fun _ => none) y) := x.cell y c hcc
      rw [hc] at q2
      exact ⟨c, cv, hcc, q2, q⟩
    slot := fun y hy => by
      obtain ⟨c, hcc⟩ := Option.isSome_iff_exists.mp (cellsFrom_some scope.names (s.heap.objs.size + 1) [] (.inl hy))
      exact ⟨c, _, hcc, x.cell y c hcc⟩
    own := fun _ y c _ hc => big c (x.above y c (mem_of_lookup hc))
    apart := fun _ => x.apart }
  refine h (envOfC qual scope s.heap.objs.size f cdv) _ _ _ _ _ ⟨rfl, hkind, rfl, rfl⟩ (by intro e; cases e) hA.deeper R₁ F₁ fun fl cf ρ' H' h' tk' p q R' F' t => ?_
  have fin : ∀ cv, VR h' fl.val cv → Q cv { s with heap := h', toks := tk' } := fun cv q => k _ cv H' h' tk' p q (hR.back R') ((Ext.tk x1).trans t)
  cases q with
  | next => exact fin _ .none
  | brk => exact fin _ .none
  | cont => exact fin _ .none
  | ret hw => exact fin _ hw

section
variable {a b c d : PySem.Str} {v₁ v₂ v₃ v₄ : V} {f : Addr} {params : Arguments} {body : List Stmt} {scope : Scope} {qual : PySem.Str}
theorem call1 (hf : FnAt X f params body scope qual) (hb : ∀ nm doc pm an cdv ct x, bindArgs (fnX nm qual params body scope [] .none .none doc pm an cdv ct) ⟨[x], []⟩ = pure [(a, x)]) (hok : fnOkB scope [a] = true)
    (h : Sx X scope n body (put (fun _ => none) a v₁) H fun fl _ H' => Φ fl.val H') : Calls X (n + 1) (.ref f) [v₁] H Φ :=
  call_def (names := [a]) hf (fun nm doc pm an cdv ct cvs hc => by
    cases cvs with
    | nil => cases hc
    | cons x r0 =>
        cases r0 with
        | nil => exact hb nm doc pm an cdv ct x
        | cons _ _ => cases hc) rfl hok h
theorem call2 (hf : FnAt X f params body scope qual) (hb : ∀ nm doc pm an cdv ct x y, bindArgs (fnX nm qual params body scope [] .none .none doc pm an cdv ct) ⟨[x, y], []⟩ = pure [(a, x), (b, y)]) (hok : fnOkB scope [a, b] = true)
    (h : Sx X scope n body (put (put (fun _ => none) a v₁) b v₂) H fun fl _ H' => Φ fl.val H') : Calls X (n + 1) (.ref f) [v₁, v₂] H Φ :=
  call_def (names := [a, b]) hf (fun nm doc pm an cdv ct cvs hc => by
    cases cvs with
    | nil => cases hc
    | cons x r0 =>
        cases r0 with
        | nil => cases hc
        | cons y r1 =>
            cases r1 with
            | nil => exact hb nm doc pm an cdv ct x y
            | cons _ _ => cases hc) rfl hok h
theorem call3 (hf : FnAt X f params body scope qual) (hb : ∀ nm doc pm an cdv ct x y z, bindArgs (fnX nm qual params body scope [] .none .none doc pm an cdv ct) ⟨[x, y, z], []⟩ = pure [(a, x), (b, y), (c, z)]) (hok : fnOkB scope [a, b, c] = true)
    (h : Sx X scope n body (put (put (put (fun _ => none) a v₁) b v₂) c v₃) H fun fl _ H' => Φ fl.val H') : Calls X (n + 1) (.ref f) [v₁, v₂, v₃] H Φ :=
  call_def (names := [a, b, c]) hf (fun nm doc pm an cdv ct cvs hc => by
    cases cvs with
    | nil => cases hc
    | cons x r0 =>
        cases r0 with
        | nil => cases hc
        | cons y r1 =>
            cases r1 with
            | nil => cases hc
            | cons z r2 =>
                cases r2 with
                | nil => exact hb nm doc pm an cdv ct x y z
                | cons _ _ => cases hc) rfl hok h
theorem call4 (hf : FnAt X f params body scope qual) (hb : ∀ nm doc pm an cdv ct x y z t, bindArgs (fnX nm qual params body scope [] .none .none doc pm an cdv ct) ⟨[x, y, z, t], []⟩ = pure [(a, x), (b, y), (c, z), (d, t)]) (hok : fnOkB scope [a, b, c, d] = true)
    (h : Sx X scope n body (put (put (put (put (fun _ => none) a v₁) b v₂) c v₃) d v₄) H fun fl _ H' => Φ fl.val H') : Calls X (n + 1) (.ref f) [v₁, v₂, v₃, v₄] H Φ :=
  call_def (names := [a, b, c, d]) hf (fun nm doc pm an cdv ct cvs hc => by
    cases cvs with
    | nil => cases hc
    | cons x r0 =>
        cases r0 with
        | nil => cases hc
        | cons y r1 =>
            cases r1 with
            | nil => cases hc
            | cons z r2 =>
                cases r2 with
                | nil => cases hc
                | cons t r3 =>
                    cases r3 with
                    | nil => exact hb nm doc pm an cdv ct x y z t
                    | cons _ _ => cases hc) rfl hok h
end

end

/-- an expression that bears no star -/
def bare : Expr → Bool
  | .Starred .. => false
  | _ => true
theorem star_bare (e : Expr) (h : bare e = true) (rest : List Expr) (env : Env) : starEach (e :: rest) env = (false, eval e env) :: starEach rest env := by
  cases e <;> first | rfl | exact absurd h (by simp [bare])
theorem Es_bare {X : X0} {sc : Scope} {n : Nat} {ρ : AL} {H : AH} {e : Expr} {es : List Expr} {Φ : List V → AH → Prop} (h : Ev X sc n e ρ H fun v H₁ => Es X sc n es ρ H₁ fun vs H₂ => Φ (v :: vs) H₂) (hb : bare e = true := by rfl) : Es X sc n (e :: es) ρ H Φ :=
  Es_cons h fun env => star_bare e hb es env
theorem iteF {A B : Prop} (h : B) : if false = true then A else B := by rw [if_neg (by decide)]; exact h
theorem iteT {A B : Prop} (h : A) : if true = true then A else B := by rw [if_pos rfl]; exact h
theorem iteP {c : Prop} [Decidable c] {A B : Prop} (hc : c) (h : A) : if c then A else B := by rw [if_pos hc]; exact h
theorem iteN {c : Prop} [Decidable c] {A B : Prop} (hc : ¬ c) (h : B) : if c then A else B := by rw [if_neg hc]; exact h
/-! the text's parts, by their place -/
def stAt (i : Nat) : Stmt := PySem.Challenge.pw_ov0044_01.main.body.getD i (.Pass default)
def fnBody (i : Nat) : List Stmt := match stAt i with | .FunctionDef _ _ b _ _ _ _ _ _ _ => b | _ => []
def fnPar (i : Nat) : Arguments := match stAt i with | .FunctionDef _ p _ _ _ _ _ _ _ _ => p | _ => default
def fnSc (i : Nat) : Scope := match stAt i with | .FunctionDef _ _ _ _ _ _ s _ _ _ => s | _ => default
def fnNm (i : Nat) : PySem.Str := match stAt i with | .FunctionDef n _ _ _ _ _ _ _ _ _ => n | _ => PySem.Str.ofString ""

/-- the places of the defs that the law calls -/
def fnIx : List Nat := [2, 3, 4, 6, 7, 8, 9, 10, 14, 15, 16, 17, 18, 19, 20, 22, 23, 24, 25, 26, 27, 28, 29, 30]
structure Lay (X : X0) (fa : Nat → Addr) : Prop where
  fn' : ∀ i, fnIx.contains i = true → FnAt X (fa i) (fnPar i) (fnBody i) (fnSc i) (fnNm i)
theorem Lay.fn {X : X0} {fa : Nat → Addr} (L : Lay X fa) (i : Nat) (h : fnIx.contains i = true := by decide) : FnAt X (fa i) (fnPar i) (fnBody i) (fnSc i) (fnNm i) := L.fn' i h

section
variable {X : X0} {fa : Nat → Addr} {n : Nat} {H : AH} {Φ : V → AH → Prop}
theorem fmod_nat (a b : Nat) : (a : Int).fmod b = ((a % b : Nat) : Int) := by rw [Int.fmod_eq_emod_of_nonneg _ (by omega)]; rfl
theorem sz2 {a b : V} : [a, b].length ≤ sizeLine := by show 2 ≤ 2 ^ 24; decide
theorem gcd_ok (L : Lay X fa) {a b : Nat} (h : Φ (.int (Nat.gcd a b : Nat)) H) : Calls X (n + 1) (.ref (fa 2)) [.int a, .int b] H Φ := by
  refine call2 (a := "a") (b := "b") (L.fn 2) (by intros; rfl) (by decide +kernel) ?_
  refine Sx_cons (St_While (fun k ρ H' => H' = H ∧ ∃ a' b' : Nat, ρ "a" = some (.int a') ∧ ρ "b" = some (.int b') ∧ Nat.gcd a' b' = Nat.gcd a b ∧ k = b') ?_ b ⟨rfl, a, b, rfl, rfl, rfl, rfl⟩)
  rintro k ρ H' ⟨rfl, a', b', ha, hb, hg, hk⟩
  subst hk
  refine Tv_Compare (Ev_Name (by decide +kernel) hb (Ev_int (op_gt ?_)))
  refine ⟨_, rfl, ?_⟩
  by_cases hz : k = 0
  · subst hz
    refine iteN (by simp) ?_
    refine Sx_cons (St_Return (Ev_Name (by decide +kernel) ha ?_))
    have : a' = Nat.gcd a b := by simpa using hg
    rw [this]; exact h
  · refine iteP (by simp; omega) ?_
    refine Sx_cons (St_Swap2 (x := "a") (y := "b") rfl (Ev_Tuple (Es_cons (Ev_Name (by decide +kernel) hb (Es_cons (Ev_BinOp (Ev_Name (by decide +kernel) ha (Ev_Name (by decide +kernel) hb (op_mod (by omega) (Es_nil ?_)))))))))
      (by decide +kernel) (by decide +kernel) ?_ ?_)
    · rw [fmod_nat]
      refine ⟨sz2, _, _, rfl, Sx_nil ⟨a' % k, Nat.mod_lt _ (by omega), rfl, k, a' % k, put_same, put_skip (by decide) put_same, ?_, rfl⟩⟩
      rw [← hg, Nat.gcd_comm a' k, Nat.gcd_rec k a', Nat.gcd_comm]
    · intro env he; first | rfl | (cases env; cases he.scope; rfl)
    · intro env he; first | rfl | (cases env; cases he.scope; rfl)
end
local macro_rules | `(tactic| walk_at "mv") => `(tactic| first
  | with_reducible exact put_same
  | exact put_skip (by decide) (by walk_at "mv")
  | exact seen_some (by decide +kernel) (by walk_at "mv")
  | with_reducible assumption)
local macro_rules | `(tactic| walk_at "env") => `(tactic| first | (intro env he; rfl) | (intro env he; cases env; cases he.scope; rfl))
local macro_rules | `(tactic| walk_at "stp") => `(tactic| first
  | (with_reducible first
    | refine Sx_nil ?_ | refine Es_nil ?_ | refine Ev_int ?_ | refine Ev_BinOp ?_ | refine Ev_Compare ?_ | refine Tv_Compare ?_ | refine Ev_Tuple ?_ | refine Ev_Subscript ?_ | refine Ev_IfExp ?_
    | refine Ev_Unary ?_ | refine Tv_Not ?_ | refine Tv_Call ?_ | refine Tv_or ?_ | refine Tv_or_nil ?_ | refine Tv_and ?_ | refine Tv_and_nil ?_ | refine Ev_or ?_ | refine Ev_and ?_ | refine Ev_bool_one ?_ | refine Ev_bool ?_
    | refine Ev_none ?_ | refine op_add ?_ | refine op_sub ?_ | refine op_neg ?_ | refine op_gt ?_ | refine op_ge ?_ | refine op_lt ?_ | refine op_eq_int ?_ | refine op_ne_int ?_ | refine op_is_tup_none ?_
    | refine St_If ?_ | refine St_Return ?_ | refine St_Continue ?_ | refine As_Subscript ?_ | refine iteF ?_ | refine iteT ?_ | refine ⟨_, rfl, ?_⟩)
  | refine Es_bare ?_
  | refine Ev_Name (by decide +kernel) (by walk_at "mv") ?_
  | refine op_item_tup (by decide) (by decide) rfl ?_
  | refine St_Assign ?_
  | refine As_Name (by decide +kernel) ?_)
local macro_rules | `(tactic| walk_at "blk") => `(tactic| first | walk_at "stp" | refine Sx_cons ?_)
/-! plain facts about fractions: no program in sight -/

theorem divInt_pos (n : Int) (k : Nat) (hk : k ≠ 0) : (Rat.divInt n k).num = n / (Nat.gcd n.natAbs k : Nat) ∧ (Rat.divInt n k).den = k / Nat.gcd n.natAbs k := by
  have e : Rat.divInt n (k : Int) = Rat.normalize n k hk := by
    rw [Rat.divInt_ofNat, Rat.normalize_eq_mkRat]
  rw [e, Rat.normalize_eq]
  exact ⟨rfl, rfl⟩

theorem fdiv_nat (n : Int) (k : Nat) : n.fdiv (k : Int) = n / (k : Int) := Int.fdiv_eq_ediv_of_nonneg n (by omega)

/-- bits -/
def Sm (k : Nat) (x : Int) : Prop := x.natAbs < 2 ^ k
theorem Sm.le {k l : Nat} {x : Int} (h : Sm k x) (e : k ≤ l) : Sm l x := Nat.lt_of_lt_of_le h (Nat.pow_le_pow_right (by decide) e)
theorem Sm.mul {k l : Nat} {x y : Int} (h : Sm k x) (g : Sm l y) : Sm (k + l) (x * y) := by
  unfold Sm at *
  rw [Int.natAbs_mul, Nat.pow_add]
  exact Nat.mul_lt_mul'' h g
theorem Sm.add {k : Nat} {x y : Int} (h : Sm k x) (g : Sm k y) : Sm (k + 1) (x + y) := by
  unfold Sm at *
  have := Int.natAbs_add_le x y
  rw [Nat.pow_succ]; omega
theorem Sm.neg {k : Nat} {x : Int} (h : Sm k x) : Sm k (-x) := by unfold Sm at *; rw [Int.natAbs_neg]; exact h

/-- a fraction of few bits -/
def SmQ (k : Nat) (q : Rat) : Prop := Sm k q.num ∧ Sm k q.den
theorem SmQ.le {k l : Nat} {x : Rat} (h : SmQ k x) (e : k ≤ l) : SmQ l x := ⟨h.1.le e, h.2.le e⟩

theorem natAbs_ediv_le (n : Int) (g : Nat) : (n / (g : Int)).natAbs ≤ n.natAbs := by
  rcases Nat.eq_zero_or_pos g with rfl | hg
  · simp
  · exact Int.natAbs_ediv_le_natAbs n g

theorem SmQ.divInt {k : Nat} {n d : Int} (hd : d ≠ 0) (h : Sm k n) (g : Sm k d) : SmQ k (Rat.divInt n d) := by
  have pos : ∀ (n : Int) (m : Nat), m ≠ 0 → Sm k n → Sm k m → SmQ k (Rat.divInt n m) := by
    intro n m hm h g
    obtain ⟨e1, e2⟩ := divInt_pos n m hm
    refine ⟨?_, ?_⟩
    · rw [e1]; exact Nat.lt_of_le_of_lt (natAbs_ediv_le _ _) h
    · unfold Sm at g ⊢
      rw [Int.natAbs_natCast] at g ⊢
      rw [e2]; exact Nat.lt_of_le_of_lt (Nat.div_le_self _ _) g
  rcases Int.lt_or_gt_of_ne hd with hneg | hpos
  · obtain ⟨m, hm⟩ := Int.eq_ofNat_of_zero_le (a := -d) (by omega)
    have e : Rat.divInt n d = Rat.divInt (-n) m := by
      rw [← hm, Rat.divInt_neg']; simp
    rw [e]
    exact pos (-n) m (by omega) h.neg (by rw [← hm]; exact g.neg)
  · obtain ⟨m, hm⟩ := Int.eq_ofNat_of_zero_le (a := d) (by omega)
    subst hm
    exact pos n m (by omega) h g

theorem den_ne (q : Rat) : (q.den : Int) ≠ 0 := by have := q.den_nz; omega

theorem mul_eq (x y : Rat) : Rat.divInt (x.num * y.num) (x.den * y.den) = x * y := by
  rw [← Rat.divInt_mul_divInt, Rat.num_divInt_den, Rat.num_divInt_den]
theorem add_eq (x y : Rat) : Rat.divInt (x.num * y.den + y.num * x.den) (x.den * y.den) = x + y := by
  rw [← Rat.divInt_add_divInt _ _ (den_ne x) (den_ne y), Rat.num_divInt_den, Rat.num_divInt_den]
theorem div_eq (x y : Rat) : Rat.divInt (x.num * y.den) (x.den * y.num) = x / y := by
  rw [← Rat.divInt_mul_divInt, Rat.num_divInt_den, Rat.div_def, Rat.inv_def]

theorem SmQ.mul {k l : Nat} {x y : Rat} (h : SmQ k x) (g : SmQ l y) : SmQ (k + l) (x * y) := by
  rw [← mul_eq]
  exact SmQ.divInt (Int.mul_ne_zero (den_ne x) (den_ne y)) (h.1.mul g.1) (h.2.mul g.2)
theorem SmQ.add {k l : Nat} {x y : Rat} (h : SmQ k x) (g : SmQ l y) : SmQ (k + l + 1) (x + y) := by
  rw [← add_eq]
  refine SmQ.divInt (Int.mul_ne_zero (den_ne x) (den_ne y)) ((h.1.mul g.2).add ?_) ((h.2.mul g.2).le (by omega))
  rw [Nat.add_comm]; exact g.1.mul h.2
theorem SmQ.div {k l : Nat} {x y : Rat} (hy : y ≠ 0) (h : SmQ k x) (g : SmQ l y) : SmQ (k + l) (x / y) := by
  rw [← div_eq]
  exact SmQ.divInt (Int.mul_ne_zero (den_ne x) (by intro e; exact hy (Rat.num_eq_zero.mp e))) (h.1.mul g.2) (h.2.mul g.1)
theorem SmQ.neg {k : Nat} {x : Rat} (h : SmQ k x) : SmQ k (-x) := ⟨by rw [Rat.neg_num]; exact h.1.neg, by rw [Rat.neg_den]; exact h.2⟩
theorem SmQ.zero {k : Nat} (hk : 1 ≤ k) : SmQ k 0 := by
  have : 2 ^ 1 ≤ 2 ^ k := Nat.pow_le_pow_right (by decide) hk
  exact ⟨by show (0 : Rat).num.natAbs < _; simp; omega, by show (((0 : Rat).den : Int)).natAbs < _; simp; omega⟩
theorem SmQ.one {k : Nat} (hk : 1 ≤ k) : SmQ k 1 := by
  have : 2 ^ 1 ≤ 2 ^ k := Nat.pow_le_pow_right (by decide) hk
  exact ⟨by show (1 : Rat).num.natAbs < _; simp; omega, by show (((1 : Rat).den : Int)).natAbs < _; simp; omega⟩
def qv (q : Rat) : V := .tup [.int q.num, .int q.den]

/-- what the walk asks of the world: the text's own globals and some built-ins -/
structure Env1 (X : X0) (fa : Nat → Addr) : Prop extends Lay X fa where
  g : ∀ i, fnIx.contains i = true → X.mg (fnNm i) = some (.ref (fa i))
  zero : ∃ cv, X.mg (PySem.Str.ofString "ZERO") = some cv ∧ VR X.h₀ (qv 0) cv
  one : ∃ cv, X.mg (PySem.Str.ofString "ONE") = some cv ∧ VR X.h₀ (qv 1) cv
  blt : ∀ x v, (x, v) ∈ ([("len", .builtin "len"), ("abs", .builtin "abs"), ("range", .type "range"), ("list", .type "list"), ("sorted", .builtin "sorted"), ("reversed", .type "reversed")] : List (String × Value)) →
    X.mg (PySem.Str.ofString x) = none ∧ X.mb (PySem.Str.ofString x) = some v

section
variable {X : X0} {fa : Nat → Addr} {sc : Scope} {n : Nat} {ρ : AL} {H : AH} {Φ : V → AH → Prop}

/-- a call of a def of the text -/
theorem Ev_fn (L : Env1 X fa) (i : Nat) {x : PySem.Str} {p pos : Pos} {e : Expr} {rest : List Expr} (hx : x = fnNm i) (hk : sc.names.lookup x = some .globalImplicit)
    (h : Es X sc n (e :: rest) ρ H fun vs H₁ => Calls X n (.ref (fa i)) vs H₁ Φ)
    (hs : ∀ env, starEach (e :: rest) env = (false, eval e env) :: starEach rest env := by intro _; rfl) (hp : ∀ env, (starEach rest env).any (·.1) = false := by intro _; rfl)
    (hd : (x == ("__debug__" : PySem.Str)) = false := by decide) (hi : fnIx.contains i = true := by decide) :
    Ev X sc n (.Call (.Name x p) (e :: rest) [] pos) ρ H Φ := by
  subst hx
  refine Ev_Call (Ev_Glob hk (L.g i hi) (.raw _) ⟨_, rfl, .inr (.inr ?_), h⟩ hd) hs hp
  obtain ⟨o, doc, pm, an, cdv, ct, nm, ho, hdt, _⟩ := (L.fn i hi).at_
  exact ⟨_, o, _, rfl, ho, hdt⟩

theorem Ev_blt (L : Env1 X fa) {id : String} {v : Value} {p pos : Pos} {e : Expr} {rest : List Expr} (hv : (id, v) ∈ ([("len", .builtin "len"), ("abs", .builtin "abs"), ("range", .type "range"), ("list", .type "list"), ("sorted", .builtin "sorted"), ("reversed", .type "reversed")] : List (String × Value)))
    (hk : sc.names.lookup (PySem.Str.ofString id) = some .globalImplicit)
    (h : Es X sc n (e :: rest) ρ H fun vs H₁ => Calls X n v vs H₁ Φ)
    (hs : ∀ env, starEach (e :: rest) env = (false, eval e env) :: starEach rest env := by intro _; rfl) (hp : ∀ env, (starEach rest env).any (·.1) = false := by intro _; rfl)
    (hd : (PySem.Str.ofString id == ("__debug__" : PySem.Str)) = false := by decide) :
    Ev X sc n (.Call (.Name (PySem.Str.ofString id) p) (e :: rest) [] pos) ρ H Φ := by
  obtain ⟨h1, h2⟩ := L.blt id v hv
  refine Ev_Call (Ev_Blt hk h1 h2 ⟨_, rfl, ?_, h⟩ hd) hs hp
  simp only [List.mem_cons, Prod.mk.injEq, List.not_mem_nil, or_false] at hv
  rcases hv with ⟨_, rfl⟩ | ⟨_, rfl⟩ | ⟨_, rfl⟩ | ⟨_, rfl⟩ | ⟨_, rfl⟩ | ⟨_, rfl⟩
  · exact .inl ⟨_, rfl⟩
  · exact .inl ⟨_, rfl⟩
  · exact .inr (.inl ⟨_, rfl⟩)
  · exact .inr (.inl ⟨_, rfl⟩)
  · exact .inl ⟨_, rfl⟩
  · exact .inr (.inl ⟨_, rfl⟩)

section
variable {p pos : Pos} {e : Expr} {rest : List Expr}
theorem Ev_len (L : Env1 X fa) (hk : sc.names.lookup (PySem.Str.ofString "len") = some .globalImplicit) (h : Es X sc n [e] ρ H fun vs H₁ => Calls X n (.builtin "len") vs H₁ Φ)
    (hs : ∀ env, starEach [e] env = (false, eval e env) :: starEach [] env := by intro _; rfl) : Ev X sc n (.Call (.Name (PySem.Str.ofString "len") p) [e] [] pos) ρ H Φ :=
  Ev_blt L (id := "len") (v := .builtin "len") (by simp) hk h hs (by intro _; rfl)
theorem Ev_abs (L : Env1 X fa) (hk : sc.names.lookup (PySem.Str.ofString "abs") = some .globalImplicit) (h : Es X sc n [e] ρ H fun vs H₁ => Calls X n (.builtin "abs") vs H₁ Φ)
    (hs : ∀ env, starEach [e] env = (false, eval e env) :: starEach [] env := by intro _; rfl) : Ev X sc n (.Call (.Name (PySem.Str.ofString "abs") p) [e] [] pos) ρ H Φ :=
  Ev_blt L (id := "abs") (v := .builtin "abs") (by simp) hk h hs (by intro _; rfl)
theorem Ev_list (L : Env1 X fa) (hk : sc.names.lookup (PySem.Str.ofString "list") = some .globalImplicit) (h : Es X sc n [e] ρ H fun vs H₁ => Calls X n (.type "list") vs H₁ Φ)
    (hs : ∀ env, starEach [e] env = (false, eval e env) :: starEach [] env := by intro _; rfl) : Ev X sc n (.Call (.Name (PySem.Str.ofString "list") p) [e] [] pos) ρ H Φ :=
  Ev_blt L (id := "list") (v := .type "list") (by simp) hk h hs (by intro _; rfl)
theorem Ev_sorted (L : Env1 X fa) (hk : sc.names.lookup (PySem.Str.ofString "sorted") = some .globalImplicit) (h : Es X sc n [e] ρ H fun vs H₁ => Calls X n (.builtin "sorted") vs H₁ Φ)
    (hs : ∀ env, starEach [e] env = (false, eval e env) :: starEach [] env := by intro _; rfl) : Ev X sc n (.Call (.Name (PySem.Str.ofString "sorted") p) [e] [] pos) ρ H Φ :=
  Ev_blt L (id := "sorted") (v := .builtin "sorted") (by simp) hk h hs (by intro _; rfl)
end

/-! small facts, once -/
theorem le1000 {i k : Nat} (h : i < k) (hk : k ≤ 100) : i ≤ 1000 := Nat.le_trans (Nat.le_of_lt h) (Nat.le_trans hk (by decide))
theorem k1000 {k : Nat} (hk : k ≤ 100) : k ≤ 1000 := Nat.le_trans hk (by decide)
theorem bud0 {a : Int} (h : a ≤ 200) : a < 900000 := by omega
theorem bud1 {a : Int} (h : a ≤ 200) : a + 1 < 900000 := by omega
theorem budk {a : Int} {k w : Nat} (h : a ≤ 200) (hk : k < w) (hw : w ≤ 4) : a + 1 + 2 * (k : Int) < 900000 := by omega
theorem budk1 {a : Int} {k w : Nat} (h : a ≤ 200) (hk : k < w) (hw : w ≤ 4) : a + 1 + 2 * (k : Int) + 1 < 900000 := by omega
theorem turn1 (i : Nat) : 10 + 10 * (i : Int) + 1 ≤ 10 + 10 * ((i + 1 : Nat) : Int) := by omega
theorem turn2 (i : Nat) : 10 + 10 * (i : Int) + 1 + 1 ≤ 10 + 10 * ((i + 1 : Nat) : Int) := by omega
theorem turnw (i : Nat) {w : Nat} (hw : w ≤ 4) : 10 + 10 * (i : Int) + 1 + 2 * (w : Int) ≤ 10 + 10 * ((i + 1 : Nat) : Int) := by omega
theorem turnk (a : Int) (k : Nat) : a + 2 * (k : Int) + 1 + 1 ≤ a + 2 * ((k + 1 : Nat) : Int) := by omega
theorem small_len {α β : Type} (f : α → β) (l : List α) {k : Nat} (hl : l.length = k) (hk : k ≤ 100) : (l.map f).length ≤ sizeLine := by rw [List.length_map, hl]; exact Nat.le_trans hk (by decide)
theorem small_take {α β γ : Type} (f : α → β) (g : β → γ) (l : List α) {k : Nat} (hk : k ≤ 100) : (((l.take k).map f).map g).length ≤ sizeLine := by
  rw [List.length_map, List.length_map, List.length_take]; exact Nat.le_trans (Nat.min_le_left _ _) (Nat.le_trans hk (by decide))
theorem small_range {β γ : Type} (f : Nat → β) (g : β → γ) {k : Nat} (hk : k ≤ 100) : (((List.range k).map f).map g).length ≤ sizeLine := by
  rw [List.length_map, List.length_map, List.length_range]; exact Nat.le_trans hk (by decide)
theorem small_cut {α : Type} (l : List α) (i j : Nat) (h : l.length ≤ 100) : (l.take i).length + (l.drop j).length ≤ sizeLine := by
  rw [List.length_take, List.length_drop]
  exact Nat.le_trans (Nat.add_le_add (Nat.min_le_right _ _) (Nat.sub_le _ _)) (Nat.le_trans (Nat.add_le_add h h) (by decide))
theorem last_ix {j k : Nat} {α : Type} {x : α} {y : α} (h : [x][j - k]? = some y) : j - k = 0 := by
  by_cases z : j - k = 0
  · exact z
  · rw [List.getElem?_eq_none (by simp; omega)] at h; cases h
theorem ix_eq {j k : Nat} (h : ¬ j < k) (h0 : j - k = 0) : j = k := by omega
theorem abs_small {v : Int} {k : Nat} (h1 : -8 < v) (h2 : v < 8) (hk : 8 ≤ 2 ^ k) : Sm k v := by
  unfold Sm; exact Nat.lt_of_lt_of_le (by omega : v.natAbs < 8) hk

/-- a range from nought -/
theorem It_upto (L : Env1 X fa) {rp rpos : Pos} {e : Expr} {Φ : Src → AH → Prop} (hk : sc.names.lookup (PySem.Str.ofString "range") = some .globalImplicit)
    (h : Ev X sc n e ρ H fun v H₁ => ∃ k : Nat, v = .int k ∧ k ≤ 1000 ∧ Φ (.rng 0 k) H₁) (hb : bare e = true := by rfl) : It X sc n (.Call (.Name (PySem.Str.ofString "range") rp) [e] [] rpos) ρ H Φ := by
  obtain ⟨g1, g2⟩ := L.blt "range" (.type "range") (by simp)
  refine It_range rfl hk g1 g2 (Es_bare (fun env B A s Q E he hA hR hF k => h env B A s Q E he hA hR hF fun v cv H' h' tk p => k v cv H' h' tk (Es_nil ?_)) hb) (fun env => star_bare e hb [] env) (fun _ => rfl)
  obtain ⟨m, rfl, hm, p⟩ := p
  refine ⟨0, m, .inl ⟨rfl, rfl⟩, by omega, by omega, by omega, by omega, ?_⟩
  have e1 : ((m : Int) - 0).toNat = m := by omega
  rw [e1]; exact p
theorem It_span (L : Env1 X fa) {rp rpos : Pos} {e₁ e₂ : Expr} {Φ : Src → AH → Prop} (hk : sc.names.lookup (PySem.Str.ofString "range") = some .globalImplicit)
    (h : Ev X sc n e₁ ρ H fun v H₁ => Ev X sc n e₂ ρ H₁ fun v' H₂ => ∃ i m : Nat, v = .int i ∧ v' = .int m ∧ i ≤ 1000 ∧ m ≤ 1000 ∧ Φ (.rng i (m - i)) H₂) (hb : bare e₁ = true := by rfl) (hb' : bare e₂ = true := by rfl)
    (hp : ∀ env, (starEach [e₂] env).any (·.1) = false := by intro _; rfl) : It X sc n (.Call (.Name (PySem.Str.ofString "range") rp) [e₁, e₂] [] rpos) ρ H Φ := by
  obtain ⟨g1, g2⟩ := L.blt "range" (.type "range") (by simp)
  refine It_range rfl hk g1 g2 (Es_bare (fun env B A s Q E he hA hR hF k => h env B A s Q E he hA hR hF fun v cv H' h' tk p => k v cv H' h' tk (Es_bare (fun env B A s Q E he hA hR hF k => p env B A s Q E he hA hR hF fun v cv H' h' tk p => k v cv H' h' tk (Es_nil ?_)) hb')) hb) (fun env => star_bare e₁ hb [e₂] env) hp
  obtain ⟨i, m, rfl, rfl, hi, hm, p⟩ := p
  refine ⟨i, m, .inr rfl, by omega, by omega, by omega, by omega, ?_⟩
  have e1 : ((m : Int) - (i : Int)).toNat = m - i := by omega
  rw [e1]; exact p
theorem item_span {H : AH} {m i s : Nat} (h : i < m) : (Src.rng (s : Nat) m).item H i = some (.int ((s + i : Nat) : Int)) := by
  show (if i < m then some (V.int ((s : Int) + (i : Int))) else _) = _
  rw [if_pos h]; rfl
theorem item_upto {H : AH} {m i : Nat} (h : i < m) : (Src.rng 0 m).item H i = some (.int (i : Nat)) := by
  show (if i < m then some (V.int (0 + (i : Int))) else _) = _
  rw [if_pos h, Int.zero_add]
theorem call_size {a : Addr} {vs : List V} {k : Nat} (hl : H a = some vs) (hk : vs.length = k) (hf : k ≤ 1000) (h : Φ (.int k) H) : Calls X n (.builtin "len") [.ref a] H Φ := by
  subst hk
  exact call_len hl (by omega) h
theorem op_at {value slice : Expr} {a : Addr} {vs : List V} {i : Nat} {v : V} (hl : H a = some vs) (hi : i ≤ 1000) (hv : vs[i]? = some v) (h : Φ v H)
    (hs : ∀ u, subscripted slice false (.ref a) (.int i u) = operate [.ref a, .int i u] (getItem (.ref a) (.int i u)) := by intro u; with_unfolding_all rfl) :
    Op X n (itm value slice) [.ref a, .int (i : Nat)] H Φ :=
  op_item_list hl (Int.natCast_nonneg i) (by omega) (by rw [Int.toNat_natCast]; exact hv) h hs

theorem Ev_zero (L : Env1 X fa) {p : Pos} (hk : sc.names.lookup (PySem.Str.ofString "ZERO") = some .globalImplicit) (h : Φ (qv 0) H) : Ev X sc n (.Name (PySem.Str.ofString "ZERO") p) ρ H Φ := by
  obtain ⟨cv, h1, h2⟩ := L.zero
  exact Ev_Glob hk h1 h2 h
theorem Ev_one (L : Env1 X fa) {p : Pos} (hk : sc.names.lookup (PySem.Str.ofString "ONE") = some .globalImplicit) (h : Φ (qv 1) H) : Ev X sc n (.Name (PySem.Str.ofString "ONE") p) ρ H Φ := by
  obtain ⟨cv, h1, h2⟩ := L.one
  exact Ev_Glob hk h1 h2 h

theorem Ev_item1 {vs : List V} {i : Int} {v : V} {value slice : Expr} (h0 : 0 ≤ i) (hi : i < 2 ^ 63) (hv : vs[i.toNat]? = some v) (h : Φ v H)
    (hs : ∀ a u, subscripted slice false (.ref a) (.int i u) = operate [.ref a, .int i u] (getItem (.ref a) (.int i u)) := by intro a u; with_unfolding_all rfl) :
    Op X n (itm value slice) [.tup vs, .int i] H Φ := op_item_tup h0 hi hv h hs
end

/-! the walk's steps -/

section
variable {X : X0} {fa : Nat → Addr} {n : Nat} {H : AH} {Φ : V → AH → Prop}
theorem make_ok (L : Env1 X fa) {a d : Int} (hd : d ≠ 0) (hs : Sm 9000 d) (h : Φ (qv (Rat.divInt a d)) H) : Calls X (n + 2) (.ref (fa 3)) [.int a, .int d] H Φ := by
  refine call2 (a := "n") (b := "d") (L.fn 3) (by intros; rfl) (by decide +kernel) ?_
  have key : ∀ (ρ : AL) (a : Int) (m : Nat), m ≠ 0 → Sm 9000 m → ρ "n" = some (.int a) → ρ "d" = some (.int m) → Φ (qv (Rat.divInt a m)) H →
      Sx X (fnSc 3) (n + 1) ((fnBody 3).drop 2) ρ H fun fl _ H' => Φ fl.val H' := by
    intro ρ a m hm hs hn hdd h
    repeat walk_at "blk"
    refine Ev_fn L 2 (by decide +kernel) (by decide +kernel) ?_
    refine Es_cons (Ev_abs L (by decide +kernel) ?_)
    repeat walk_at "blk"
    refine call_abs ?_
    repeat walk_at "blk"
    refine gcd_ok L.toLay ?_
    repeat walk_at "blk"
    obtain ⟨e1, e2⟩ := divInt_pos a m hm
    have hg : Nat.gcd a.natAbs m ≠ 0 := by
      intro e; exact hm (Nat.eq_zero_of_gcd_eq_zero_right e)
    have hlog : (Nat.gcd a.natAbs m : Int).natAbs.log2 < 9000 := by
      rw [Int.natAbs_natCast]
      refine (Nat.log2_lt hg).mpr (Nat.lt_of_le_of_lt (Nat.gcd_le_right _ (Nat.pos_of_ne_zero hm)) ?_)
      unfold Sm at hs; rwa [Int.natAbs_natCast] at hs
    refine op_div (by omega) hlog ?_
    repeat walk_at "blk"
    refine op_div (by omega) hlog ?_
    repeat walk_at "blk"
    refine ⟨sz2, ?_⟩
    rw [fdiv_nat, fdiv_nat]
    have : qv (Rat.divInt a m) = V.tup [V.int (a / (Nat.gcd a.natAbs m : Nat)), V.int ((m : Int) / (Nat.gcd a.natAbs m : Nat))] := by
      unfold qv; rw [e1, e2]; rfl
    rw [this] at h
    exact h
  have h1 : ∀ ρ : AL, ρ "n" = some (.int a) → ρ "d" = some (.int d) → Sx X (fnSc 3) (n + 1) (fnBody 3) ρ H fun fl _ H' => Φ fl.val H' := by
    intro ρ hn hdd
    refine Sx_cons ?_
    repeat walk_at "stp"
    refine iteN (by simpa using hd) ?_
    repeat walk_at "stp"
    refine Sx_cons ?_
    repeat walk_at "stp"
    by_cases hneg : d < 0
    · refine iteP (by simpa using hneg) ?_
      refine Sx_cons ?_
      repeat walk_at "stp"
      refine Sx_cons ?_
      repeat walk_at "stp"
      obtain ⟨m, hm⟩ := Int.eq_ofNat_of_zero_le (a := 0 - d) (by omega)
      rw [hm]
      refine key _ (0 - a) m (by omega) ?_ (by walk_at "mv") (by walk_at "mv") ?_
      · have : Sm 9000 (-d) := hs.neg
        rw [← hm, Int.zero_sub]; exact this
      · rw [← hm, Int.zero_sub, Int.zero_sub, ← Rat.divInt_neg']; simpa using h
    · refine iteN (by simpa using hneg) ?_
      repeat walk_at "stp"
      obtain ⟨m, rfl⟩ := Int.eq_ofNat_of_zero_le (a := d) (by omega)
      exact key _ a m (by omega) hs hn hdd h
  exact h1 _ (by walk_at "mv") (by walk_at "mv")
end
section
variable {X : X0} {fa : Nat → Addr} {n : Nat} {H : AH} {Φ : V → AH → Prop}

theorem den0 (q : Rat) : ((q.den : Int) == 0) = false := by simpa using den_ne q

theorem is_na_ok (L : Env1 X fa) {q : Rat} (h : Φ (.bool false) H) : Calls X (n + 1) (.ref (fa 4)) [qv q] H Φ := by
  refine call1 (a := "x") (L.fn 4) (by intros; rfl) (by decide +kernel) ?_
  change Sx X (fnSc 4) n (fnBody 4) (put (fun _ => none) "x" (.tup [.int q.num, .int q.den])) H _
  repeat walk_at "blk"
  by_cases h0 : q.num = 0
  · rw [h0, show ((0 : Int) == 0) = true from rfl]
    repeat walk_at "blk"
    rw [den0]; exact h
  · rw [show (q.num == 0) = false by simpa using h0]
    repeat walk_at "blk"
    exact h

theorem neg_ok (L : Env1 X fa) {q : Rat} (h : Φ (qv (-q)) H) : Calls X (n + 1) (.ref (fa 6)) [qv q] H Φ := by
  refine call1 (a := "x") (L.fn 6) (by intros; rfl) (by decide +kernel) ?_
  change Sx X (fnSc 6) n (fnBody 6) (put (fun _ => none) "x" (.tup [.int q.num, .int q.den])) H _
  repeat walk_at "blk"
  refine ⟨sz2, ?_⟩
  have e : qv (-q) = .tup [.int (0 - q.num), .int q.den] := by unfold qv; rw [Rat.neg_num, Rat.neg_den, Int.zero_sub]
  rw [e] at h; exact h

theorem mulOk {k l : Nat} {a b : Int} (ha : Sm k a) (hb : Sm l b) (h : k + l ≤ 1000000) : IntMulOk a b := by
  have bits : ∀ {k : Nat} {a : Int}, Sm k a → Builtin.Int.intBits a ≤ k := by
    intro k a h
    unfold Builtin.Int.intBits
    split
    · exact Nat.zero_le _
    · rename_i hz
      have hz' : a.natAbs ≠ 0 := by simpa using hz
      have := (Nat.log2_lt hz').mpr h
      omega
  have h1 := bits ha
  have h2 := bits hb
  unfold IntMulOk
  have : Builtin.Int.intTooBig (Builtin.Int.intBits a + Builtin.Int.intBits b) = false := by
    unfold Builtin.Int.intTooBig
    refine decide_eq_false ?_
    show ¬ (((Builtin.Int.intBits a : Int) + (Builtin.Int.intBits b : Int)) > ((2 ^ 27 : Nat) : Int))
    have e27 : ((2 ^ 27 : Nat) : Int) = 134217728 := by decide
    rw [e27]; omega
  rw [this]; simp

theorem mul_ok (L : Env1 X fa) {x y : Rat} {k l : Nat} (hx : SmQ k x) (hy : SmQ l y) (hkl : k + l ≤ 9000) (h : Φ (qv (x * y)) H) : Calls X (n + 3) (.ref (fa 9)) [qv x, qv y] H Φ := by
  refine call2 (a := "x") (b := "y") (L.fn 9) (by intros; rfl) (by decide +kernel) ?_
  repeat walk_at "blk"
  refine Ev_fn L 4 (by decide +kernel) (by decide +kernel) ?_
  repeat walk_at "blk"
  refine is_na_ok L ?_
  repeat walk_at "blk"
  refine Ev_fn L 4 (by decide +kernel) (by decide +kernel) ?_
  repeat walk_at "blk"
  refine is_na_ok L ?_
  repeat walk_at "blk"
  refine Ev_fn L 3 (by decide +kernel) (by decide +kernel) ?_
  unfold qv
  repeat walk_at "blk"
  refine op_mul (mulOk hx.1 hy.1 (by omega)) ?_
  repeat walk_at "blk"
  refine op_mul (mulOk hx.2 hy.2 (by omega)) ?_
  repeat walk_at "blk"
  refine make_ok L (Int.mul_ne_zero (den_ne x) (den_ne y)) ((hx.2.mul hy.2).le hkl) ?_
  rw [mul_eq]; exact h

theorem div_ok (L : Env1 X fa) {x y : Rat} {k l : Nat} (hx : SmQ k x) (hy : SmQ l y) (hkl : k + l ≤ 9000) (h0 : y ≠ 0) (h : Φ (qv (x / y)) H) : Calls X (n + 3) (.ref (fa 10)) [qv x, qv y] H Φ := by
  refine call2 (a := "x") (b := "y") (L.fn 10) (by intros; rfl) (by decide +kernel) ?_
  repeat walk_at "blk"
  refine Ev_fn L 4 (by decide +kernel) (by decide +kernel) ?_
  repeat walk_at "blk"
  refine is_na_ok L ?_
  repeat walk_at "blk"
  refine Ev_fn L 4 (by decide +kernel) (by decide +kernel) ?_
  repeat walk_at "blk"
  refine is_na_ok L ?_
  unfold qv
  repeat walk_at "blk"
  rw [den0]
  repeat walk_at "blk"
  rw [den0]
  repeat walk_at "blk"
  refine Ev_fn L 3 (by decide +kernel) (by decide +kernel) ?_
  repeat walk_at "blk"
  refine op_mul (mulOk hx.1 hy.2 (by omega)) ?_
  repeat walk_at "blk"
  refine op_mul (mulOk hx.2 hy.1 (by omega)) ?_
  repeat walk_at "blk"
  refine make_ok L (Int.mul_ne_zero (den_ne x) (fun e => h0 (Rat.num_eq_zero.mp e))) ((hx.2.mul hy.1).le hkl) ?_
  rw [div_eq]; exact h

theorem add_ok (L : Env1 X fa) {x y : Rat} {k l : Nat} (hx : SmQ k x) (hy : SmQ l y) (hkl : k + l ≤ 9000) (h : Φ (qv (x + y)) H) : Calls X (n + 3) (.ref (fa 7)) [qv x, qv y] H Φ := by
  refine call2 (a := "x") (b := "y") (L.fn 7) (by intros; rfl) (by decide +kernel) ?_
  repeat walk_at "blk"
  refine Ev_fn L 4 (by decide +kernel) (by decide +kernel) ?_
  repeat walk_at "blk"
  refine is_na_ok L ?_
  repeat walk_at "blk"
  refine Ev_fn L 4 (by decide +kernel) (by decide +kernel) ?_
  repeat walk_at "blk"
  refine is_na_ok L ?_
  unfold qv
  repeat walk_at "blk"
  rw [den0]
  repeat walk_at "blk"
  rw [den0]
  repeat walk_at "blk"
  rw [den0]
  repeat walk_at "blk"
  refine Ev_fn L 3 (by decide +kernel) (by decide +kernel) ?_
  repeat walk_at "blk"
  refine op_mul (mulOk hx.1 hy.2 (by omega)) ?_
  repeat walk_at "blk"
  refine op_mul (mulOk hy.1 hx.2 (by omega)) ?_
  repeat walk_at "blk"
  refine op_mul (mulOk hx.2 hy.2 (by omega)) ?_
  repeat walk_at "blk"
  refine make_ok L (Int.mul_ne_zero (den_ne x) (den_ne y)) ((hx.2.mul hy.2).le hkl) ?_
  rw [add_eq]; exact h

theorem sub_ok (L : Env1 X fa) {x y : Rat} {k l : Nat} (hx : SmQ k x) (hy : SmQ l y) (hkl : k + l ≤ 9000) (h : Φ (qv (x - y)) H) : Calls X (n + 4) (.ref (fa 8)) [qv x, qv y] H Φ := by
  refine call2 (a := "x") (b := "y") (L.fn 8) (by intros; rfl) (by decide +kernel) ?_
  repeat walk_at "blk"
  refine Ev_fn L 7 (by decide +kernel) (by decide +kernel) ?_
  repeat walk_at "blk"
  refine Ev_fn L 6 (by decide +kernel) (by decide +kernel) ?_
  repeat walk_at "blk"
  refine neg_ok L ?_
  repeat walk_at "blk"
  refine add_ok L hx hy.neg hkl ?_
  rw [← Rat.sub_eq_add_neg]; exact h

/-- the law's own fractions -/
theorem lean_ok (L : Env1 X fa) {a d : Int} (hd : d ≠ 0) (hs : Sm 9000 d) (h : Φ (qv (Rat.divInt a d)) H) : Calls X (n + 1) (.ref (fa 23)) [.int a, .int d] H Φ := by
  refine call2 (a := "over") (b := "under") (L.fn 23) (by intros; rfl) (by decide +kernel) ?_
  have key : ∀ (ρ : AL) (a : Int) (m : Nat), m ≠ 0 → Sm 9000 m → ρ "over" = some (.int a) → ρ "under" = some (.int m) → Φ (qv (Rat.divInt a m)) H →
      Sx X (fnSc 23) n ((fnBody 23).drop 1) ρ H fun fl _ H' => Φ fl.val H' := by
    intro ρ a m hm hs hn hdd h
    refine Sx_cons (St_Swap2 (x := "a") (y := "b") rfl (Ev_Tuple (Es_cons (Ev_abs L (by decide +kernel) ?_))) (by decide +kernel) (by decide +kernel) ?_ ?_)
    rotate_left
    · intro env he; first | rfl | (cases env; cases he.scope; rfl)
    · intro env he; first | rfl | (cases env; cases he.scope; rfl)
    repeat walk_at "stp"
    refine call_abs ?_
    repeat walk_at "stp"
    refine ⟨sz2, _, _, rfl, ?_⟩
    refine Sx_cons (St_While (fun k ρ H' => H' = H ∧ ∃ a' b' : Nat, ρ "a" = some (.int a') ∧ ρ "b" = some (.int b') ∧ Nat.gcd a' b' = Nat.gcd a.natAbs m ∧ k = b' ∧ ρ "over" = some (.int a) ∧ ρ "under" = some (.int m)) ?_ m
      ⟨rfl, a.natAbs, m, by walk_at "mv", by walk_at "mv", rfl, rfl, by walk_at "mv", by walk_at "mv"⟩)
    rintro k ρ H' ⟨rfl, a', b', ha, hb, hg, hk, hn, hdd⟩
    subst hk
    repeat walk_at "stp"
    by_cases hz : k = 0
    · subst hz
      refine iteN (by simp) ?_
      have hg' : a' = Nat.gcd a.natAbs m := by simpa using hg
      subst hg'
      obtain ⟨e1, e2⟩ := divInt_pos a m hm
      have hg : Nat.gcd a.natAbs m ≠ 0 := by
        intro e; exact hm (Nat.eq_zero_of_gcd_eq_zero_right e)
      have hlog : (Nat.gcd a.natAbs m : Int).natAbs.log2 < 9000 := by
        rw [Int.natAbs_natCast]
        refine (Nat.log2_lt hg).mpr (Nat.lt_of_le_of_lt (Nat.gcd_le_right _ (Nat.pos_of_ne_zero hm)) ?_)
        unfold Sm at hs; rwa [Int.natAbs_natCast] at hs
      repeat walk_at "blk"
      refine op_div (by omega) hlog ?_
      repeat walk_at "stp"
      refine op_div (by omega) hlog ?_
      repeat walk_at "stp"
      refine ⟨sz2, ?_⟩
      rw [fdiv_nat, fdiv_nat]
      have : qv (Rat.divInt a m) = V.tup [V.int (a / (Nat.gcd a.natAbs m : Nat)), V.int ((m : Int) / (Nat.gcd a.natAbs m : Nat))] := by
        unfold qv; rw [e1, e2]; rfl
      rw [this] at h
      exact h
    · refine iteP (by simp; omega) ?_
      refine Sx_cons (St_Swap2 (x := "a") (y := "b") rfl (Ev_Tuple ?_) (by decide +kernel) (by decide +kernel) ?_ ?_)
      · repeat walk_at "stp"
        refine op_mod (by omega) ?_
        repeat walk_at "stp"
        rw [fmod_nat]
        refine ⟨sz2, _, _, rfl, Sx_nil ⟨a' % k, Nat.mod_lt _ (by omega), rfl, k, a' % k, by walk_at "mv", by walk_at "mv", ?_, rfl, by walk_at "mv", by walk_at "mv"⟩⟩
        rw [← hg, Nat.gcd_comm a' k, Nat.gcd_rec k a', Nat.gcd_comm]
      · intro env he; first | rfl | (cases env; cases he.scope; rfl)
      · intro env he; first | rfl | (cases env; cases he.scope; rfl)
  change Sx X (fnSc 23) n (fnBody 23) (put (put (fun _ => none) "over" (.int a)) "under" (.int d)) H _
  refine Sx_cons ?_
  repeat walk_at "stp"
  by_cases hneg : d < 0
  · refine iteP (by simpa using hneg) ?_
    refine Sx_cons (St_Swap2 (x := "over") (y := "under") rfl (Ev_Tuple ?_) (by decide +kernel) (by decide +kernel) ?_ ?_)
    · repeat walk_at "stp"
      obtain ⟨m, hm⟩ := Int.eq_ofNat_of_zero_le (a := 0 - d) (by omega)
      rw [hm]
      refine ⟨sz2, _, _, rfl, Sx_nil (key _ (0 - a) m (by omega) ?_ (by walk_at "mv") (by walk_at "mv") ?_)⟩
      · have : Sm 9000 (-d) := hs.neg
        rw [← hm, Int.zero_sub]; exact this
      · rw [← hm, Int.zero_sub, Int.zero_sub, ← Rat.divInt_neg']; simpa using h
    · intro env he; first | rfl | (cases env; cases he.scope; rfl)
    · intro env he; first | rfl | (cases env; cases he.scope; rfl)
  · refine iteN (by simpa using hneg) ?_
    repeat walk_at "stp"
    obtain ⟨m, rfl⟩ := Int.eq_ofNat_of_zero_le (a := d) (by omega)
    exact key _ a m (by omega) hs (by walk_at "mv") (by walk_at "mv") h

theorem plus_ok (L : Env1 X fa) {x y : Rat} {k l : Nat} (hx : SmQ k x) (hy : SmQ l y) (hkl : k + l ≤ 9000) (h : Φ (qv (x + y)) H) : Calls X (n + 2) (.ref (fa 24)) [qv x, qv y] H Φ := by
  refine call2 (a := "x") (b := "y") (L.fn 24) (by intros; rfl) (by decide +kernel) ?_
  unfold qv
  repeat walk_at "blk"
  refine Ev_fn L 23 (by decide +kernel) (by decide +kernel) ?_
  repeat walk_at "blk"
  refine op_mul (mulOk hx.1 hy.2 (by omega)) ?_
  repeat walk_at "blk"
  refine op_mul (mulOk hy.1 hx.2 (by omega)) ?_
  repeat walk_at "blk"
  refine op_mul (mulOk hx.2 hy.2 (by omega)) ?_
  repeat walk_at "blk"
  refine lean_ok L (Int.mul_ne_zero (den_ne x) (den_ne y)) ((hx.2.mul hy.2).le hkl) ?_
  rw [add_eq]; exact h

theorem by_ok (L : Env1 X fa) {x y : Rat} {k l : Nat} (hx : SmQ k x) (hy : SmQ l y) (hkl : k + l ≤ 9000) (h : Φ (qv (x * y)) H) : Calls X (n + 2) (.ref (fa 25)) [qv x, qv y] H Φ := by
  refine call2 (a := "x") (b := "y") (L.fn 25) (by intros; rfl) (by decide +kernel) ?_
  unfold qv
  repeat walk_at "blk"
  refine Ev_fn L 23 (by decide +kernel) (by decide +kernel) ?_
  repeat walk_at "blk"
  refine op_mul (mulOk hx.1 hy.1 (by omega)) ?_
  repeat walk_at "blk"
  refine op_mul (mulOk hx.2 hy.2 (by omega)) ?_
  repeat walk_at "blk"
  refine lean_ok L (Int.mul_ne_zero (den_ne x) (den_ne y)) ((hx.2.mul hy.2).le hkl) ?_
  rw [mul_eq]; exact h
end
/-! the echelon form as a plain function -/
/-- an entry -/
def ent (M : List (List Rat)) (i c : Nat) : Rat := (M.getD i []).getD c 0
/-- rows of one width -/
def Rect (M : List (List Rat)) (w : Nat) : Prop := ∀ row ∈ M, row.length = w
def SmM (k : Nat) (M : List (List Rat)) : Prop := ∀ row ∈ M, ∀ x ∈ row, SmQ k x

theorem ent_row {M : List (List Rat)} {i c w : Nat} {row : List Rat} (hr : M[i]? = some row) (hw : Rect M w) (hc : c < w) : row[c]? = some (ent M i c) := by
  have hl := hw row (List.mem_of_getElem? hr)
  have e : M.getD i [] = row := by rw [List.getD_eq_getElem?_getD, hr]; rfl
  unfold ent
  rw [e, List.getD_eq_getElem?_getD, List.getElem?_eq_getElem (by omega)]; rfl
theorem row_at {M : List (List Rat)} {i : Nat} (h : i < M.length) : ∃ row, M[i]? = some row := ⟨_, List.getElem?_eq_getElem h⟩

/-- x less f times y, item by item -/
def lessRow (row other : List Rat) (f : Rat) : List Rat := List.zipWith (fun x y => x - f * y) row other


theorem lessRow_length {row other : List Rat} {f : Rat} (h : other.length = row.length) : (lessRow row other f).length = row.length := by
  simp [lessRow, h]

/-- the column cleared in the first i rows but the pivot's -/
def clearUpto (M : List (List Rat)) (p c i : Nat) : List (List Rat) :=
  M.mapIdx fun j row => if j < i ∧ j ≠ p then lessRow row (M.getD p []) (row.getD c 0) else row
def clearM (M : List (List Rat)) (p c : Nat) : List (List Rat) := clearUpto M p c M.length

theorem clearUpto_length (M : List (List Rat)) (p c i : Nat) : (clearUpto M p c i).length = M.length := by simp [clearUpto]
theorem clearUpto_get (M : List (List Rat)) (p c i j : Nat) : (clearUpto M p c i)[j]? = M[j]?.map fun row => if j < i ∧ j ≠ p then lessRow row (M.getD p []) (row.getD c 0) else row := by
  simp [clearUpto, List.getElem?_mapIdx]
theorem clearUpto_zero (M : List (List Rat)) (p c : Nat) : clearUpto M p c 0 = M := by
  refine List.ext_getElem? fun j => ?_
  rw [clearUpto_get]
  simp
theorem clearUpto_skip (M : List (List Rat)) (p c : Nat) : clearUpto M p c (p + 1) = clearUpto M p c p := by
  refine List.ext_getElem? fun j => ?_
  rw [clearUpto_get, clearUpto_get]
  congr 1
  funext row
  by_cases h : j < p + 1 ∧ j ≠ p
  · rw [if_pos h, if_pos ⟨by omega, h.2⟩]
  · rw [if_neg h, if_neg (by omega)]
theorem clearUpto_set (M : List (List Rat)) (p c i : Nat) (hp : i ≠ p) {row : List Rat} (hr : M[i]? = some row) :
    (clearUpto M p c i).set i (lessRow row (M.getD p []) (row.getD c 0)) = clearUpto M p c (i + 1) := by
  have hi : i < M.length := (List.getElem?_eq_some_iff.mp hr).1
  refine List.ext_getElem? fun j => ?_
  rw [clearUpto_get]
  by_cases hj : i = j
  · subst hj
    rw [List.getElem?_set_self (by rw [clearUpto_length]; exact hi), hr, Option.map_some, if_pos ⟨by omega, hp⟩]
  · rw [List.getElem?_set_ne hj, clearUpto_get]
    congr 1
    funext row
    by_cases h : j < i ∧ j ≠ p
    · rw [if_pos h, if_pos ⟨by omega, h.2⟩]
    · rw [if_neg h, if_neg (by omega)]

/-- the first row from s on with an entry in the column -/
def findF (M : List (List Rat)) (s c : Nat) : Option Nat := (List.range M.length).find? fun i => decide (s ≤ i) && decide (ent M i c ≠ 0)

theorem findF_some {M : List (List Rat)} {s c f : Nat} (h1 : s ≤ f) (h2 : f < M.length) (h3 : ∀ j, s ≤ j → j < f → ent M j c = 0) (h4 : ent M f c ≠ 0) : findF M s c = some f := by
  unfold findF
  rw [List.find?_range_eq_some]
  refine ⟨by simp [h1, h4], by simp [h2], fun j hj => ?_⟩
  by_cases hs : s ≤ j
  · simp [h3 j hs hj]
  · simp [hs]
theorem findF_none {M : List (List Rat)} {s c : Nat} (h : ∀ j, s ≤ j → j < M.length → ent M j c = 0) : findF M s c = none := by
  unfold findF
  rw [List.find?_range_eq_none]
  intro j hj
  by_cases hs : s ≤ j
  · simp [h j hs hj]
  · simp [hs]

abbrev ESt := List (List Rat) × List Nat
def swapM (M : List (List Rat)) (t f : Nat) : List (List Rat) := (M.set t (M.getD f [])).set f (M.getD t [])
def scaleM (M : List (List Rat)) (t c : Nat) : List (List Rat) := M.set t ((M.getD t []).map (· * (1 / ent M t c)))
def stepE (c : Nat) (st : ESt) : ESt := match findF st.1 st.2.length c with
  | none => st
  | some f => (clearM (scaleM (swapM st.1 st.2.length f) st.2.length c) st.2.length c, st.2 ++ [c])
noncomputable def echUpto (M : List (List Rat)) : Nat → ESt
  | 0 => (M, [])
  | c + 1 => stepE c (echUpto M c)

theorem findF_spec {M : List (List Rat)} {s c f : Nat} (h : findF M s c = some f) : s ≤ f ∧ f < M.length ∧ ent M f c ≠ 0 := by
  unfold findF at h
  rw [List.find?_range_eq_some] at h
  obtain ⟨h1, h2, _⟩ := h
  simp at h1 h2
  exact ⟨h1.1, h2, h1.2⟩

theorem rect_set {M : List (List Rat)} {w i : Nat} {row : List Rat} (h : Rect M w) (hr : row.length = w) : Rect (M.set i row) w := fun r hr' => by
  rcases List.mem_or_eq_of_mem_set hr' with q | q
  · exact h r q
  · rw [q]; exact hr
theorem rect_getD {M : List (List Rat)} {w i : Nat} (h : Rect M w) (hi : i < M.length) : (M.getD i []).length = w := by
  rw [List.getD_eq_getElem?_getD, List.getElem?_eq_getElem hi]
  exact h _ (List.getElem_mem hi)
theorem rect_swap {M : List (List Rat)} {w t f : Nat} (h : Rect M w) (ht : t < M.length) (hf : f < M.length) : Rect (swapM M t f) w :=
  rect_set (rect_set h (rect_getD h hf)) (rect_getD h ht)
theorem rect_scale {M : List (List Rat)} {w t c : Nat} (h : Rect M w) (ht : t < M.length) : Rect (scaleM M t c) w :=
  rect_set h (by rw [List.length_map]; exact rect_getD h ht)
theorem rect_clear {M : List (List Rat)} {w p c : Nat} (h : Rect M w) (hp : p < M.length) : Rect (clearM M p c) w := fun r hr => by
  obtain ⟨j, hj⟩ := List.getElem?_of_mem hr
  unfold clearM at hj
  rw [clearUpto_get] at hj
  cases q : M[j]? with
  | none => rw [q] at hj; cases hj
  | some row =>
    rw [q, Option.map_some] at hj
    have hl := h row (List.mem_of_getElem? q)
    split at hj
    · cases hj; rw [lessRow_length (by rw [rect_getD h hp, hl]), hl]
    · cases hj; exact hl
theorem swapM_length (M : List (List Rat)) (t f : Nat) : (swapM M t f).length = M.length := by simp [swapM]
theorem scaleM_length (M : List (List Rat)) (t c : Nat) : (scaleM M t c).length = M.length := by simp [scaleM]
theorem clearM_length (M : List (List Rat)) (t c : Nat) : (clearM M t c).length = M.length := clearUpto_length ..

theorem stepE_ok {c w : Nat} {st : ESt} (h1 : Rect st.1 w) (h2 : st.2.length ≤ st.1.length) : Rect (stepE c st).1 w ∧ (stepE c st).1.length = st.1.length ∧ (stepE c st).2.length ≤ st.1.length := by
  unfold stepE
  split
  · exact ⟨h1, rfl, h2⟩
  · rename_i f hf
    obtain ⟨a, b, _⟩ := findF_spec hf
    have ht : st.2.length < st.1.length := by omega
    refine ⟨rect_clear (rect_scale (rect_swap h1 ht b) (by rw [swapM_length]; exact ht)) (by rw [scaleM_length, swapM_length]; exact ht), by rw [clearM_length, scaleM_length, swapM_length], ?_⟩
    rw [List.length_append]; simp; omega
theorem echUpto_ok {M : List (List Rat)} {w : Nat} (h : Rect M w) : ∀ c, Rect (echUpto M c).1 w ∧ (echUpto M c).1.length = M.length ∧ (echUpto M c).2.length ≤ M.length
  | 0 => ⟨h, rfl, by simp [echUpto]⟩
  | c + 1 => by
    obtain ⟨a, b, d⟩ := echUpto_ok h c
    obtain ⟨a', b', d'⟩ := stepE_ok (c := c) a (by rw [b]; exact d)
    exact ⟨a', b'.trans b, Nat.le_trans d' (Nat.le_of_eq b)⟩
def Grow (H H' : AH) : Prop := ∀ b vs, H b = some vs → H' b = some vs
theorem Grow.refl (H : AH) : Grow H H := fun _ _ e => e
theorem Grow.trans {H₁ H₂ H₃ : AH} (x : Grow H₁ H₂) (y : Grow H₂ H₃) : Grow H₁ H₃ := fun b vs e => y b vs (x b vs e)
theorem Grow.upd {H : AH} {a : Addr} {vs : List V} (h : H a = none) : Grow H (upd H a vs) := fun b ws e => by
  rw [upd_ne (fun z => by subst z; rw [h] at e; cases e)]; exact e
/-- all but the list at a stays -/
def GrowBut (a : Addr) (H H' : AH) : Prop := ∀ b vs, b ≠ a → H b = some vs → H' b = some vs

structure MatAt (H : AH) (a : Addr) (rs : List Addr) (M : List (List Rat)) : Prop where
  len : rs.length = M.length
  out : H a = some (rs.map V.ref)
  row : ∀ (i : Nat) (r : Addr), rs[i]? = some r → ∃ row : List Rat, M[i]? = some row ∧ H r = some (row.map qv)
  ne : ∀ r ∈ rs, r ≠ a

theorem MatAt.grow {H H' : AH} {a : Addr} {rs : List Addr} {M : List (List Rat)} (m : MatAt H a rs M) (g : Grow H H') : MatAt H' a rs M :=
  ⟨m.len, g _ _ m.out, fun i r e => let ⟨row, h1, h2⟩ := m.row i r e; ⟨row, h1, g _ _ h2⟩, m.ne⟩
theorem MatAt.at_ {H : AH} {a : Addr} {rs : List Addr} {M : List (List Rat)} (m : MatAt H a rs M) {i : Nat} {row : List Rat} (h : M[i]? = some row) : ∃ r, rs[i]? = some r ∧ r ≠ a ∧ H r = some (row.map qv) := by
  have hlt : i < M.length := (List.getElem?_eq_some_iff.mp h).1
  have hlt' : i < rs.length := by rw [m.len]; exact hlt
  obtain ⟨row', h1, h2⟩ := m.row i rs[i] (List.getElem?_eq_getElem hlt')
  rw [h] at h1; cases h1
  exact ⟨rs[i], List.getElem?_eq_getElem hlt', m.ne _ (List.getElem_mem hlt'), h2⟩
theorem MatAt.set {H : AH} {a : Addr} {rs : List Addr} {M : List (List Rat)} (m : MatAt H a rs M) {i : Nat} {r' : Addr} {row' : List Rat} (hr : H r' = some (row'.map qv)) (hne : r' ≠ a) :
    MatAt (upd H a ((rs.map V.ref).set i (.ref r'))) a (rs.set i r') (M.set i row') where
  len := by simp [m.len]
  out := by rw [upd_same, List.map_set]
  row j r e := by
    have hne' : r ≠ a := by
      rcases List.mem_or_eq_of_mem_set (List.mem_of_getElem? e) with h | h
      · exact m.ne r h
      · rw [h]; exact hne
    rw [upd_ne hne']
    by_cases hj : i = j
    · subst hj
      by_cases hl : i < rs.length
      · rw [List.getElem?_set_self hl] at e; cases e
        exact ⟨row', List.getElem?_set_self (by rw [← m.len]; exact hl), hr⟩
      · rw [List.getElem?_eq_none (by simp; omega)] at e; cases e
    · rw [List.getElem?_set_ne hj] at e
      obtain ⟨row, h1, h2⟩ := m.row j r e
      exact ⟨row, by rw [List.getElem?_set_ne hj]; exact h1, h2⟩
  ne r hr' := by
    rcases List.mem_or_eq_of_mem_set hr' with h | h
    · exact m.ne r h
    · rw [h]; exact hne

section
variable {X : X0} {fa : Nat → Addr} {n : Nat} {H : AH} {Φ : V → AH → Prop}

theorem Ev_mono {sc : Scope} {ρ : AL} {e : Expr} {Φ Ψ : V → AH → Prop} (h : Ev X sc n e ρ H Φ) (i : ∀ v H', Φ v H' → Ψ v H') : Ev X sc n e ρ H Ψ :=
  fun env B A s Q E he hA hR hF k => h env B A s Q E he hA hR hF fun v cv H' h' tk p => k v cv H' h' tk (i v H' p)
theorem Tv_mono {sc : Scope} {ρ : AL} {e : Expr} {Φ Ψ : Bool → AH → Prop} (h : Tv X sc n e ρ H Φ) (i : ∀ v H', Φ v H' → Ψ v H') : Tv X sc n e ρ H Ψ :=
  fun env B A s Q E he hA hR hF k => h env B A s Q E he hA hR hF fun v H' h' tk p => k v H' h' tk (i v H' p)
theorem Ts_mono {sc : Scope} {ρ : AL} : ∀ {es : List Expr} {Φ Ψ : Bool → AH → Prop}, Ts X sc n es ρ H Φ → (∀ v H', Φ v H' → Ψ v H') → Ts X sc n es ρ H Ψ
  | [], _, _, h, i => i _ _ h
  | [_], _, _, h, i => Tv_mono h i
  | _ :: _ :: _, _, _, h, _ => h.elim

theorem Ts_nil {sc : Scope} {ρ : AL} {Φ : Bool → AH → Prop} (h : Φ true H) : Ts X sc n [] ρ H Φ := h
theorem Cp_inv {sc : Scope} {ρ : AL} {x : PySem.Str} {ifs : List Expr} {elt : Expr} {S : Src} {Φ : List V → AH → Prop} (J : Nat → AH → List V → Prop) (m : Nat)
    (step : ∀ i H acc, i < m → J i H acc → ∃ v, S.item H i = some v ∧ Ts X sc n ifs (put ρ x v) H fun b H₁ =>
      if b = true then Ev X sc n elt (put ρ x v) H₁ fun w H₂ => acc.length ≤ sizeLine ∧ J (i + 1) H₂ (acc ++ [w]) else J (i + 1) H₁ acc)
    (fin : ∀ H acc, J m H acc → S.ok H ∧ S.item H m = none ∧ Φ acc H) (h0 : J 0 H []) : Cp X sc n x ifs elt S ρ Φ m 0 H [] := by
  have key : ∀ k i H acc, i + k = m → J i H acc → Cp X sc n x ifs elt S ρ Φ k i H acc := by
    intro k
    induction k with
    | zero => intro i H acc e hJ; have hm : i = m := (by omega); subst hm; exact fin H acc hJ
    | succ k ih =>
      intro i H acc e hJ
      obtain ⟨v, hv, hb⟩ := step i H acc (by omega) hJ
      refine ⟨v, hv, Ts_mono hb fun b H₁ hf => ?_⟩
      cases b with
      | true => exact Ev_mono hf fun w H₂ p => ⟨p.1, ih (i + 1) H₂ _ (by omega) p.2⟩
      | false => exact ih (i + 1) H₁ acc (by omega) hf
  exact key m 0 H [] (by omega) h0

theorem Cp_map {sc : Scope} {ρ : AL} {x : PySem.Str} {elt : Expr} {S : Src} {Φ : List V → AH → Prop} (J : Nat → AH → List V → Prop) (m : Nat)
    (step : ∀ i H acc, i < m → J i H acc → ∃ v, S.item H i = some v ∧ ∀ Ψ : V → AH → Prop, (∀ w H₂, acc.length ≤ sizeLine ∧ J (i + 1) H₂ (acc ++ [w]) → Ψ w H₂) → Ev X sc n elt (put ρ x v) H Ψ)
    (fin : ∀ H acc, J m H acc → S.ok H ∧ S.item H m = none ∧ Φ acc H) (h0 : J 0 H []) : Cp X sc n x [] elt S ρ Φ m 0 H [] :=
  Cp_inv J m (fun i H acc hi hJ => let ⟨v, hv, he⟩ := step i H acc hi hJ; ⟨v, hv, Ts_nil (iteT (he _ fun _ _ p => p))⟩) fin h0

theorem item_lst {H : AH} {a : Addr} {vs : List V} (h : H a = some vs) (i : Nat) : (Src.lst a).item H i = vs[i]? := by
  show ((H a).bind fun vs => vs[i]?) = _
  rw [h]; rfl
theorem ok_lst {H : AH} {a : Addr} {vs : List V} (h : H a = some vs) : (Src.lst a).ok H := by
  show (H a).isSome = true
  rw [h]; rfl
theorem item_rng {H : AH} {lo : Int} {m i : Nat} (h : i < m) : (Src.rng lo m).item H i = some (.int (lo + i)) := by
  show (if i < m then _ else _) = _
  rw [if_pos h]
theorem item_rng_end {H : AH} {lo : Int} {m : Nat} : (Src.rng lo m).item H m = none := by
  show (if m < m then _ else _) = _
  rw [if_neg (Nat.lt_irrefl _)]
theorem small {k : Nat} (h : k ≤ 100) : k ≤ sizeLine := Nat.le_trans h (by decide)

theorem copied_ok (L : Env1 X fa) {a : Addr} {rs : List Addr} {M : List (List Rat)} (m : MatAt H a rs M) (hl : M.length ≤ 100) (hw : ∀ row ∈ M, row.length ≤ 100)
    (h : ∀ a' rs' H', Grow H H' → MatAt H' a' rs' M → H a' = none → (∀ r ∈ rs', H r = none) → Φ (.ref a') H') : Calls X (n + 1) (.ref (fa 14)) [.ref a] H Φ := by
  refine call1 (a := "rows") (L.fn 14) (by intros; rfl) (by decide +kernel) ?_
  refine Sx_cons (St_Return (Ev_ListComp (by decide +kernel) (It_list ?_)))
  repeat walk_at "stp"
  refine ⟨a, _, rfl, m.out, M.length, Cp_map (fun i H' acc => Grow H H' ∧ ∃ rs' : List Addr, acc = rs'.map V.ref ∧ rs'.length = i ∧
    (∀ (j : Nat) (r : Addr), rs'[j]? = some r → ∃ row : List Rat, M[j]? = some row ∧ H' r = some (row.map qv)) ∧ ∀ r ∈ rs', H r = none) M.length ?_ ?_ ?_⟩
  · rintro i H' acc hi ⟨g, rs', rfl, hlen, hrow, hnew⟩
    obtain ⟨row, hM⟩ := row_at hi
    obtain ⟨r, hr, hra, hHr⟩ := m.at_ hM
    refine ⟨.ref r, by rw [item_lst (g _ _ m.out), List.getElem?_map, hr]; rfl, fun Ψ kE => ?_⟩
    refine Ev_list L (by decide +kernel) ?_
    repeat walk_at "stp"
    have hlen' := hw row (List.mem_of_getElem? hM)
    refine call_list (g _ _ hHr) (by rw [List.length_map]; exact small hlen') fun b hb => ?_
    repeat walk_at "stp"
    refine kE _ _ ?_
    refine ⟨small_len V.ref rs' hlen (Nat.le_trans (Nat.le_of_lt hi) hl), g.trans (Grow.upd hb), rs' ++ [b], by simp, by simp [hlen], fun j r' e => ?_, fun r' hr' => ?_⟩
    · rw [List.getElem?_append] at e
      split at e
      · obtain ⟨row', h1, h2⟩ := hrow j r' e
        exact ⟨row', h1, Grow.upd hb _ _ h2⟩
      · have hj := last_ix e
        have hji : j = i := (ix_eq ‹_› hj).trans hlen
        subst hji
        rw [hj] at e; simp at e; subst e
        exact ⟨row, hM, upd_same⟩
    · rcases List.mem_append.mp hr' with h' | h'
      · exact hnew r' h'
      · have : r' = b := by simpa using h'
        subst this
        cases q : H r' with
        | none => rfl
        | some vs => rw [g _ _ q] at hb; cases hb
  · rintro H' acc ⟨g, rs', rfl, hlen, hrow, hnew⟩
    refine ⟨ok_lst (g _ _ m.out), by rw [item_lst (g _ _ m.out)]; exact List.getElem?_eq_none (by simp [m.len]), fun a' ha' => ?_⟩
    refine h a' rs' _ (g.trans (Grow.upd ha')) ⟨hlen, upd_same, fun i r e => ?_, fun r hr z => ?_⟩ ?_ hnew
    · obtain ⟨row', h1, h2⟩ := hrow i r e
      exact ⟨row', h1, Grow.upd ha' _ _ h2⟩
    · subst z
      obtain ⟨j, hj⟩ := List.getElem?_of_mem hr
      obtain ⟨row', _, h2⟩ := hrow j r hj
      rw [ha'] at h2; cases h2
    · cases q : H a' with
      | none => rfl
      | some vs => rw [g _ _ q] at ha'; cases ha'
  · exact ⟨Grow.refl _, [], rfl, rfl, fun j r e => by simp at e, fun r e => by cases e⟩

theorem scaled_ok (L : Env1 X fa) {a : Addr} {row : List Rat} {f : Rat} {k l : Nat} (hr : H a = some (row.map qv)) (hl : row.length ≤ 100) (hs : ∀ x ∈ row, SmQ k x) (hf : SmQ l f) (hkl : k + l ≤ 9000)
    (h : ∀ b, H b = none → Φ (.ref b) (upd H b ((row.map (· * f)).map qv))) : Calls X (n + 4) (.ref (fa 15)) [.ref a, qv f] H Φ := by
  refine call2 (a := "row") (b := "factor") (L.fn 15) (by intros; rfl) (by decide +kernel) ?_
  refine Sx_cons (St_Return (Ev_ListComp (by decide +kernel) (It_list ?_)))
  repeat walk_at "stp"
  refine ⟨a, _, rfl, hr, row.length, Cp_map (fun i H' acc => H' = H ∧ acc = ((row.take i).map (· * f)).map qv) row.length ?_ ?_ ⟨rfl, by simp⟩⟩
  · rintro i H' acc hi ⟨rfl, rfl⟩
    refine ⟨qv row[i], by rw [item_lst hr, List.getElem?_map, List.getElem?_eq_getElem hi]; rfl, fun Ψ kE => ?_⟩
    refine Ev_fn L 9 (by decide +kernel) (by decide +kernel) ?_
    repeat walk_at "stp"
    refine mul_ok L (hs _ (List.getElem_mem hi)) hf hkl ?_
    repeat walk_at "stp"
    refine kE _ _ ?_
    refine ⟨small_take (· * f) qv row (Nat.le_trans (Nat.le_of_lt hi) hl), rfl, ?_⟩
    rw [← List.take_append_getElem hi]; simp only [List.map_append, List.map_cons, List.map_nil]
  · rintro H' acc ⟨rfl, rfl⟩
    refine ⟨ok_lst hr, by rw [item_lst hr]; exact List.getElem?_eq_none (by simp), fun b hb => ?_⟩
    rw [List.take_length]; exact h b hb

theorem Op_ne_q {x y : Rat} (h : Φ (.bool (!decide (x = y))) H) : Op X n (cmp .NotEq) [qv x, qv y] H Φ := by
  refine op_ne (da := .tuple [.int x.num, .int x.den]) (db := .tuple [.int y.num, .int y.den]) (.tup (.cons (.int _) (.cons (.int _) .nil))) (.tup (.cons (.int _) (.cons (.int _) .nil))) rfl rfl ?_
  have e : PyData.eqv (.tuple [.int x.num, .int x.den]) (.tuple [.int y.num, .int y.den]) = decide (x = y) := by
    simp only [PyData.eqv, PyData.eqvAll, Bool.and_true]
    by_cases z : x = y
    · subst z; simp
    · rw [decide_eq_false z]
      by_cases h1 : x.num = y.num
      · have h2 : x.den ≠ y.den := fun h2 => z (Rat.ext h1 h2)
        have : ((x.den : Int) == (y.den : Int)) = false := by rw [beq_eq_false_iff_ne]; omega
        rw [this]; simp
      · have : (x.num == y.num) = false := by simpa using h1
        rw [this]; simp
  rw [e]; exact h
theorem Op_eq_q {x y : Rat} (h : Φ (.bool (decide (x = y))) H) : Op X n (cmp .Eq) [qv x, qv y] H Φ := by
  refine op_eq (da := .tuple [.int x.num, .int x.den]) (db := .tuple [.int y.num, .int y.den]) (.tup (.cons (.int _) (.cons (.int _) .nil))) (.tup (.cons (.int _) (.cons (.int _) .nil))) rfl rfl ?_
  have e : PyData.eqv (.tuple [.int x.num, .int x.den]) (.tuple [.int y.num, .int y.den]) = decide (x = y) := by
    simp only [PyData.eqv, PyData.eqvAll, Bool.and_true]
    by_cases z : x = y
    · subst z; simp
    · rw [decide_eq_false z]
      by_cases h1 : x.num = y.num
      · have h2 : x.den ≠ y.den := fun h2 => z (Rat.ext h1 h2)
        have : ((x.den : Int) == (y.den : Int)) = false := by rw [beq_eq_false_iff_ne]; omega
        rw [this]; simp
      · have : (x.num == y.num) = false := by simpa using h1
        rw [this]; simp
  rw [e]; exact h

theorem less_ok (L : Env1 X fa) {a o : Addr} {row other : List Rat} {f : Rat} {k l : Nat} (hr : H a = some (row.map qv)) (ho : H o = some (other.map qv)) (hl : row.length ≤ 100) (hlo : other.length = row.length)
    (hs : ∀ x ∈ row, SmQ k x) (hso : ∀ x ∈ other, SmQ k x) (hf : SmQ l f) (hkl : 2 * k + l ≤ 9000)
    (h : ∀ b H', Grow H H' → (b = a ∨ H b = none) → H' b = some ((lessRow row other f).map qv) → Φ (.ref b) H') : Calls X (n + 5) (.ref (fa 16)) [.ref a, .ref o, qv f] H Φ := by
  refine call3 (a := "row") (b := "other") (c := "factor") (L.fn 16) (by intros; rfl) (by decide +kernel) ?_
  refine Sx_cons ?_
  repeat walk_at "stp"
  refine Ev_zero L (by decide +kernel) ?_
  refine Op_eq_q ?_
  repeat walk_at "stp"
  by_cases hz : f = 0
  · refine iteP (by simpa using hz) ?_
    repeat walk_at "blk"
    refine h a H (Grow.refl _) (.inl rfl) ?_
    rw [hr]
    congr 2
    unfold lessRow
    subst hz
    refine List.ext_getElem (by simp [hlo]) fun i h1 h2 => ?_
    rw [List.getElem_zipWith, Rat.zero_mul]; grind
  · refine iteN (by simpa using hz) ?_
    repeat walk_at "stp"
    refine Sx_cons (St_Assign (Ev_List (Es_nil ⟨by decide, fun d hd => ?_⟩)))
    repeat walk_at "stp"
    have hda : a ≠ d := fun z => by subst z; rw [hr] at hd; cases hd
    have hdo : o ≠ d := fun z => by subst z; rw [ho] at hd; cases hd
    refine Sx_cons (St_For (by decide +kernel) (It_upto L (by decide +kernel) (Ev_len L (by decide +kernel) ?_)))
    repeat walk_at "stp"
    refine call_size ((upd_ne hda).trans hr) (by rw [List.length_map]) (by omega) ?_
    repeat walk_at "stp"
    refine ⟨by omega, row.length, ?_⟩
    refine Lp_inv (fun i ρ' H' => H' = upd H d (((lessRow row other f).take i).map qv) ∧ ρ' "row" = some (.ref a) ∧ ρ' "other" = some (.ref o) ∧ ρ' "factor" = some (qv f) ∧ ρ' "result" = some (.ref d)) row.length ?_ ?_ ?_
    · rintro i ρ' H' hi ⟨rfl, h1, h2, h3, h4⟩
      refine ⟨_, item_upto hi, fun Ψ kN kR => ?_⟩
      have hio : i < other.length := by omega
      refine Sx_cons (St_Expr (Ev_append ?_))
      repeat walk_at "stp"
      refine ⟨by rw [upd_same]; rfl, ?_⟩
      refine Ev_fn L 8 (by decide +kernel) (by decide +kernel) ?_
      repeat walk_at "stp"
      refine op_at (v := qv row[i]) ((upd_ne hda).trans hr) (le1000 hi hl) (by rw [List.getElem?_map, List.getElem?_eq_getElem hi]; rfl) ?_
      repeat walk_at "stp"
      refine Ev_fn L 9 (by decide +kernel) (by decide +kernel) ?_
      repeat walk_at "stp"
      refine op_at (v := qv other[i]) ((upd_ne hdo).trans ho) (le1000 hi hl) (by rw [List.getElem?_map, List.getElem?_eq_getElem hio]; rfl) ?_
      repeat walk_at "stp"
      refine mul_ok L hf (hso _ (List.getElem_mem hio)) (by omega) ?_
      repeat walk_at "stp"
      refine sub_ok L (hs _ (List.getElem_mem hi)) (hf.mul (hso _ (List.getElem_mem hio))) (by omega) ?_
      refine ⟨_, upd_same, small (by simp [lessRow]; omega), rfl, Sx_nil (kN _ _ ⟨?_, by walk_at "mv", by walk_at "mv", by walk_at "mv", by walk_at "mv"⟩).1⟩
      have hlr : i < (lessRow row other f).length := by simp [lessRow]; omega
      funext b
      by_cases z : b = d
      · subst z
        rw [upd_same, upd_same, ← List.take_append_getElem hlr]
        simp only [List.map_append, List.map_cons, List.map_nil, lessRow, List.getElem_zipWith]
      · rw [upd_ne z, upd_ne z, upd_ne z]
    · rintro ρ' H' ⟨rfl, h1, h2, h3, h4⟩
      refine ⟨trivial, item_rng_end, ?_⟩
      repeat walk_at "blk"
      refine h d _ (Grow.upd hd) (.inr hd) ?_
      rw [upd_same, List.take_of_length_le (by simp [lessRow]; omega)]
    · exact ⟨by simp, by walk_at "mv", by walk_at "mv", by walk_at "mv", by walk_at "mv"⟩

theorem first_ok (L : Env1 X fa) {a : Addr} {rs : List Addr} {M : List (List Rat)} {w s c : Nat} (m : MatAt H a rs M) (hw : Rect M w) (hc : c < w) (hl : M.length ≤ 100) (hwl : w ≤ 100) (hs : s ≤ M.length)
    (h1 : ∀ f, s ≤ f → f < M.length → (∀ j, s ≤ j → j < f → ent M j c = 0) → ent M f c ≠ 0 → Φ (.int (f : Nat)) H) (h2 : (∀ j, s ≤ j → j < M.length → ent M j c = 0) → Φ (.int (-1)) H) :
    Calls X (n + 1) (.ref (fa 17)) [.ref a, .int (s : Nat), .int (c : Nat)] H Φ := by
  refine call3 (a := "rows") (b := "start") (c := "column") (L.fn 17) (by intros; rfl) (by decide +kernel) ?_
  refine Sx_cons (St_For (by decide +kernel) (It_span L (by decide +kernel) ?_))
  repeat walk_at "stp"
  refine Ev_len L (by decide +kernel) ?_
  repeat walk_at "stp"
  refine call_size m.out (by rw [List.length_map, m.len]) (by omega) ?_
  repeat walk_at "stp"
  refine ⟨s, M.length, rfl, rfl, by omega, by omega, M.length - s, ?_⟩
  refine Lp_inv (fun i ρ' H' => H' = H ∧ ρ' "rows" = some (.ref a) ∧ ρ' "column" = some (.int (c : Nat)) ∧ ∀ j, s ≤ j → j < s + i → ent M j c = 0) (M.length - s) ?_ ?_ ?_
  · rintro i ρ' H' hi ⟨rfl, g1, g2, g3⟩
    refine ⟨_, item_span hi, fun Ψ kN kR => ?_⟩
    have hsi : s + i < M.length := by omega
    obtain ⟨row, hM⟩ := row_at hsi
    obtain ⟨r, hr, _, hHr⟩ := m.at_ hM
    have he := ent_row hM hw hc
    refine Sx_cons ?_
    repeat walk_at "stp"
    refine op_at (v := .ref r) m.out (le1000 hsi hl) (by rw [List.getElem?_map, hr]; rfl) ?_
    repeat walk_at "stp"
    refine op_at (v := qv (ent M (s + i) c)) hHr (le1000 hc hwl) (by rw [List.getElem?_map, he]; rfl) ?_
    refine Ev_zero L (by decide +kernel) ?_
    refine Op_ne_q ?_
    repeat walk_at "stp"
    by_cases hz : ent M (s + i) c = 0
    · refine iteN (by simpa using hz) ?_
      repeat walk_at "stp"
      refine (kN _ _ ?_).1
      refine ⟨rfl, by walk_at "mv", by walk_at "mv", fun j hj hj' => ?_⟩
      by_cases z : j = s + i
      · subst z; exact hz
      · exact g3 j hj (by omega)
    · refine iteP (by simpa using hz) ?_
      repeat walk_at "blk"
      exact kR _ _ _ (h1 (s + i) (by omega) hsi g3 hz)
  · rintro ρ' H' ⟨rfl, g1, g2, g3⟩
    refine ⟨trivial, item_rng_end, ?_⟩
    repeat walk_at "blk"
    exact h2 fun j hj hj' => g3 j hj (by omega)
  · exact ⟨rfl, by walk_at "mv", by walk_at "mv", fun j hj hj' => by omega⟩
end
theorem MatAt.getD {H : AH} {a : Addr} {rs : List Addr} {M : List (List Rat)} (m : MatAt H a rs M) {i : Nat} (h : i < M.length) : ∃ r, rs[i]? = some r ∧ r ≠ a ∧ H r = some ((M.getD i []).map qv) := by
  obtain ⟨row, hr⟩ := row_at h
  obtain ⟨r, h1, h2, h3⟩ := m.at_ hr
  refine ⟨r, h1, h2, ?_⟩
  rw [List.getD_eq_getElem?_getD, hr]; exact h3
theorem refs_at {rs : List Addr} {i : Nat} {r : Addr} (h : rs[i]? = some r) {k : Int} (hk : k = i) : (rs.map V.ref)[k.toNat]? = some (V.ref r) := by
  subst hk; rw [Int.toNat_natCast, List.getElem?_map, h]; rfl
theorem qvs_at {row : List Rat} {i : Nat} {x : Rat} (h : row[i]? = some x) {k : Int} (hk : k = i) : (row.map qv)[k.toNat]? = some (qv x) := by
  subst hk; rw [Int.toNat_natCast, List.getElem?_map, h]; rfl
theorem refs_atN {rs : List Addr} {i : Nat} {r : Addr} (h : rs[i]? = some r) : (rs.map V.ref)[i]? = some (V.ref r) := by rw [List.getElem?_map, h]; rfl
theorem qvs_atN {row : List Rat} {i : Nat} {x : Rat} (h : row[i]? = some x) : (row.map qv)[i]? = some (qv x) := by rw [List.getElem?_map, h]; rfl
theorem lt63 {i : Nat} (h : i ≤ 1000) : (i : Int) < 2 ^ 63 := by omega
theorem lt_refs {rs : List Addr} {i k : Nat} (h : i < k) (e : rs.length = k) : i < (rs.map V.ref).length := by rw [List.length_map, e]; exact h
theorem getD_row {M : List (List Rat)} {i : Nat} (h : i < M.length) : M[i]? = some (M.getD i []) := by
  rw [List.getD_eq_getElem?_getD, List.getElem?_eq_getElem h]; rfl
theorem ent_getD {M : List (List Rat)} {i c w : Nat} (h : i < M.length) (hw : Rect M w) (hc : c < w) : (M.getD i [])[c]? = some (ent M i c) := ent_row (getD_row h) hw hc
theorem SmM.ent {k : Nat} {M : List (List Rat)} {i c w : Nat} (hs : SmM k M) (h : i < M.length) (hw : Rect M w) (hc : c < w) : SmQ k (ent M i c) :=
  hs _ (List.mem_of_getElem? (getD_row h)) _ (List.mem_of_getElem? (ent_getD h hw hc))

section
variable {X : X0} {fa : Nat → Addr} {n : Nat} {H : AH} {Φ : V → AH → Prop}

theorem clear_ok (L : Env1 X fa) {a : Addr} {rs : List Addr} {M : List (List Rat)} {w p c k : Nat} (m : MatAt H a rs M) (hw : Rect M w) (hc : c < w) (hp : p < M.length) (hl : M.length ≤ 100) (hwl : w ≤ 100) (hs : SmM k M) (hk : 3 * k ≤ 9000)
    (h : ∀ rs' H', GrowBut a H H' → MatAt H' a rs' (clearM M p c) → Φ .none H') : Calls X (n + 6) (.ref (fa 18)) [.ref a, .int (p : Nat), .int (c : Nat)] H Φ := by
  refine call3 (a := "rows") (b := "pivot") (c := "column") (L.fn 18) (by intros; rfl) (by decide +kernel) ?_
  refine Sx_cons (St_For (by decide +kernel) (It_upto L (by decide +kernel) (Ev_len L (by decide +kernel) ?_)))
  repeat walk_at "stp"
  refine call_size m.out (by rw [List.length_map, m.len]) (by omega) ?_
  repeat walk_at "stp"
  refine ⟨by omega, M.length, ?_⟩
  refine Lp_inv (fun i ρ' H' => (∃ rs', MatAt H' a rs' (clearUpto M p c i)) ∧ GrowBut a H H' ∧ ρ' "rows" = some (.ref a) ∧ ρ' "pivot" = some (.int (p : Nat)) ∧ ρ' "column" = some (.int (c : Nat))) M.length ?_ ?_ ?_
  · rintro i ρ' H' hi ⟨⟨rs', m'⟩, g, h1, h2, h3⟩
    refine ⟨_, item_upto hi, fun Ψ kN kR => ?_⟩
    refine Sx_cons ?_
    repeat walk_at "stp"
    by_cases hip : i = p
    · subst hip
      refine iteN (by simp) ?_
      repeat walk_at "stp"
      refine (kN _ _ ?_).1
      refine ⟨⟨rs', ?_⟩, g, by walk_at "mv", by walk_at "mv", by walk_at "mv"⟩
      rw [clearUpto_skip]; exact m'
    · refine iteP (by simp; omega) ?_
      have hrow := getD_row hi
      have hri : (clearUpto M p c i)[i]? = some (M.getD i []) := by
        rw [clearUpto_get, hrow, Option.map_some, if_neg (by omega)]
      have hrp : (clearUpto M p c i)[p]? = some (M.getD p []) := by
        rw [clearUpto_get, getD_row hp, Option.map_some, if_neg (by omega)]
      obtain ⟨r, hr, hra, hHr⟩ := m'.at_ hri
      obtain ⟨rp, hrp', hrpa, hHrp⟩ := m'.at_ hrp
      have hle : rs'.length = M.length := by rw [m'.len, clearUpto_length]
      have hrl : (M.getD i []).length = w := rect_getD hw hi
      have hpl : (M.getD p []).length = w := rect_getD hw hp
      refine Sx_cons ?_
      repeat walk_at "stp"
      refine Ev_fn L 16 (by decide +kernel) (by decide +kernel) ?_
      repeat walk_at "stp"
      refine op_at m'.out (le1000 hi hl) (refs_atN hr) ?_
      repeat walk_at "stp"
      refine op_at m'.out (le1000 hp hl) (refs_atN hrp') ?_
      repeat walk_at "stp"
      refine op_at m'.out (le1000 hi hl) (refs_atN hr) ?_
      repeat walk_at "stp"
      refine op_at hHr (le1000 hc hwl) (qvs_atN (ent_getD hi hw hc)) ?_
      repeat walk_at "stp"
      refine less_ok L hHr hHrp (by omega) (by omega) (hs _ (List.mem_of_getElem? hrow)) (hs _ (List.mem_of_getElem? (getD_row hp))) (hs.ent hi hw hc) (by omega) fun b H'' g'' hb hHb => ?_
      repeat walk_at "stp"
      have hba : b ≠ a := by
        rcases hb with rfl | hb
        · exact hra
        · intro z; subst z; rw [m'.out] at hb; cases hb
      have m'' := (m'.grow g'').set (i := i) hHb hba
      refine ⟨a, (i : Int), _, rfl, rfl, g'' _ _ m'.out, Int.natCast_nonneg i, Int.ofNat_lt.mpr (lt_refs hi hle), lt63 (le1000 hi hl), ?_⟩
      repeat walk_at "stp"
      rw [Int.toNat_natCast]
      refine (kN _ _ ?_).1
      refine ⟨⟨rs'.set i b, ?_⟩, fun d vs hd e => ?_, by walk_at "mv", by walk_at "mv", by walk_at "mv"⟩
      · have e3 : lessRow (M.getD i []) (M.getD p []) (ent M i c) = lessRow (M.getD i []) (M.getD p []) ((M.getD i []).getD c 0) := rfl
        rw [e3, clearUpto_set M p c i hip hrow] at m''
        exact m''
      · rw [upd_ne hd]; exact g'' _ _ (g _ _ hd e)
  · rintro ρ' H' ⟨⟨rs', m'⟩, g, h1, h2, h3⟩
    refine ⟨trivial, item_rng_end, ?_⟩
    refine Sx_nil (h rs' H' g m')
  · exact ⟨⟨rs, by rw [clearUpto_zero]; exact m⟩, fun b vs _ e => e, by walk_at "mv", by walk_at "mv", by walk_at "mv"⟩

def ivs (l : List Nat) : List V := (l.map (fun c : Nat => (c : Int))).map V.int
theorem ivs_snoc (l : List Nat) (c : Nat) : ivs l ++ [V.int (c : Int)] = ivs (l ++ [c]) := by simp [ivs]
theorem ivs_length (l : List Nat) : (ivs l).length = l.length := by simp [ivs]

theorem MatAt.other {H H' : AH} {a : Addr} {rs : List Addr} {M : List (List Rat)} (m : MatAt H a rs M) (h1 : H' a = H a) (h2 : ∀ r ∈ rs, H' r = H r) : MatAt H' a rs M :=
  ⟨m.len, h1.trans m.out, fun i r e => let ⟨row, q1, q2⟩ := m.row i r e; ⟨row, q1, (h2 r (List.mem_of_getElem? e)).trans q2⟩, m.ne⟩

/-- an outer list, and its rows, are apart from a list that is no row -/
theorem grow_upd2 {H H' : AH} {r : Addr} {vs : List V} (g : Grow H H') (hr : H r = none) : Grow H (upd H' r vs) := fun b ws e => by
  rw [upd_ne (fun z => by subst z; rw [hr] at e; cases e)]; exact g _ _ e

theorem MatAt.notInts {H : AH} {a p : Addr} {rs : List Addr} {M : List (List Rat)} {w : Nat} {l : List Nat} (m : MatAt H a rs M) (hw : Rect M w) (h0 : 0 < w) (hp : H p = some (ivs l)) : ∀ q ∈ rs, q ≠ p := fun q hq z => by
  subst z
  obtain ⟨j, hj⟩ := List.getElem?_of_mem hq
  obtain ⟨row, hr, e⟩ := m.row j q hj
  rw [hp] at e
  have hl := hw row (List.mem_of_getElem? hr)
  cases row with
  | nil => simp at hl; omega
  | cons x xs =>
    have e := Option.some.inj e
    cases l with
    | nil => simp [ivs] at e
    | cons y ys => simp [ivs, qv] at e

theorem ech_ok (L : Env1 X fa) {a : Addr} {rs : List Addr} {M : List (List Rat)} {w K : Nat} (m : MatAt H a rs M) (hw : Rect M w) (hne : 0 < M.length) (hl : M.length ≤ 100) (hwl : w ≤ 100)
    (hs : ∀ c, c ≤ w → SmM K (echUpto M c).1) (hK1 : 1 ≤ K) (hK : K ≤ 1000)
    (h : ∀ r rs' p H', Grow H H' → MatAt H' r rs' (echUpto M w).1 → H' p = some (ivs (echUpto M w).2) → Φ (.tup [.ref r, .ref p]) H') : Calls X (n + 7) (.ref (fa 19)) [.ref a] H Φ := by
  refine call1 (a := "a") (L.fn 19) (by intros; rfl) (by decide +kernel) ?_
  refine Sx_cons ?_
  repeat walk_at "stp"
  refine Ev_fn L 14 (by decide +kernel) (by decide +kernel) ?_
  repeat walk_at "stp"
  refine copied_ok L m hl (fun row hr => by rw [hw row hr]; exact hwl) fun r rs₀ H₀ g₀ m₀ hr₀ hrs₀ => ?_
  repeat walk_at "stp"
  refine Sx_cons (St_Assign (Ev_List (Es_nil ⟨by decide, fun p hp => ?_⟩)))
  repeat walk_at "stp"
  refine Sx_cons ?_
  repeat walk_at "stp"
  have hpr : p ≠ r := fun z => by subst z; rw [m₀.out] at hp; cases hp
  have hprs : ∀ q ∈ rs₀, q ≠ p := fun q hq z => by
    subst z
    obtain ⟨j, hj⟩ := List.getElem?_of_mem hq
    obtain ⟨row, _, e⟩ := m₀.row j q hj
    rw [hp] at e; cases e
  have hp0 : H p = none := by
    cases q : H p with
    | none => rfl
    | some vs => rw [g₀ _ _ q] at hp; cases hp
  have m₁ : MatAt (upd H₀ p []) r rs₀ M := m₀.grow (Grow.upd hp)
  refine Ev_len L (by decide +kernel) ?_
  repeat walk_at "stp"
  refine call_size m₁.out (by rw [List.length_map, m₁.len]) (by omega) ?_
  repeat walk_at "stp"
  refine iteP (by simpa using hne) ?_
  refine Ev_len L (by decide +kernel) ?_
  repeat walk_at "stp"
  obtain ⟨r0, hr0, _, hHr0⟩ := m₁.getD hne
  refine op_item_list m₁.out (by decide) (by decide) (refs_at (i := 0) hr0 rfl) ?_
  repeat walk_at "stp"
  have hw0 : (M.getD 0 []).length = w := rect_getD hw hne
  refine call_size hHr0 (by rw [List.length_map, hw0]) (by omega) ?_
  repeat walk_at "stp"
  refine Sx_cons (St_For (by decide +kernel) (It_upto L (by decide +kernel) ?_))
  repeat walk_at "stp"
  refine ⟨by omega, w, ?_⟩
  refine Lp_inv (fun c ρ' H' => (∃ rs', MatAt H' r rs' (echUpto M c).1 ∧ ∀ q ∈ rs', q ≠ p) ∧ H' p = some (ivs (echUpto M c).2) ∧ Grow H H' ∧ ρ' "rows" = some (.ref r) ∧ ρ' "pivots" = some (.ref p)) w ?_ ?_ ?_
  · rintro c ρ' H' hc ⟨⟨rs', m', hq⟩, hp', g, h1, h2⟩
    refine ⟨_, item_upto hc, fun Ψ kN kR => ?_⟩
    obtain ⟨hw', hlen', htl⟩ := echUpto_ok hw c
    have hsc := hs c (Nat.le_of_lt hc)
    generalize hst : echUpto M c = st at *
    obtain ⟨N, piv⟩ := st
    dsimp only at *
    have e : echUpto M (c + 1) = stepE c (N, piv) := by rw [echUpto, hst]
    rw [e] at kN
    have htl' : piv.length ≤ N.length := by omega
    refine Sx_cons ?_
    repeat walk_at "stp"
    refine Ev_len L (by decide +kernel) ?_
    repeat walk_at "stp"
    refine call_size hp' (by rw [ivs_length]) (by omega) ?_
    repeat walk_at "stp"
    refine Sx_cons ?_
    repeat walk_at "stp"
    refine Ev_fn L 17 (by decide +kernel) (by decide +kernel) ?_
    repeat walk_at "stp"
    refine first_ok (w := w) L m' hw' hc (by omega) hwl htl' (fun f f1 f2 f3 f4 => ?_) (fun hz => ?_)
    · have hf := findF_some f1 f2 f3 f4
      have hstep : stepE c (N, piv) = (clearM (scaleM (swapM N piv.length f) piv.length c) piv.length c, piv ++ [c]) := by
        unfold stepE; dsimp only; rw [hf]
      rw [hstep] at kN
      dsimp only at kN
      have ht : piv.length < N.length := by omega
      have hNl : N.length ≤ 100 := by rw [hlen']; exact hl
      have hpl : piv.length ≤ 1000 := le1000 ht hNl
      repeat walk_at "stp"
      refine Sx_cons ?_
      repeat walk_at "stp"
      refine iteN (by simp) ?_
      repeat walk_at "stp"
      -- the swap
      obtain ⟨rf, hrf, hrfa, hHrf⟩ := m'.getD f2
      obtain ⟨rt, hrt, hrta, hHrt⟩ := m'.getD ht
      have hrsl : rs'.length = N.length := m'.len
      refine Sx_cons (St_Assign (Ev_Tuple ?_))
      repeat walk_at "stp"
      refine op_at m'.out (le1000 f2 hNl) (refs_atN hrf) ?_
      repeat walk_at "stp"
      refine op_at m'.out hpl (refs_atN hrt) ?_
      repeat walk_at "stp"
      refine ⟨sz2, As_Tuple2 ?_⟩
      have m1 := m'.set (i := piv.length) hHrf hrfa
      repeat walk_at "stp"
      refine ⟨r, _, _, rfl, rfl, m'.out, Int.natCast_nonneg _, Int.ofNat_lt.mpr (lt_refs ht hrsl), lt63 hpl, ?_⟩
      rw [Int.toNat_natCast]
      have hHrt1 : upd H' r ((rs'.map V.ref).set piv.length (.ref rf)) rt = some ((N.getD piv.length []).map qv) := by rw [upd_ne hrta]; exact hHrt
      have m2 := m1.set (i := f) hHrt1 hrta
      repeat walk_at "stp"
      refine ⟨r, _, _, rfl, rfl, upd_same, Int.natCast_nonneg _, Int.ofNat_lt.mpr (by rw [List.length_set]; exact lt_refs f2 hrsl), lt63 (le1000 f2 hNl), ?_⟩
      rw [Int.toNat_natCast]
      rw [List.map_set] at m2
      repeat walk_at "stp"
      generalize hH2 : upd (upd H' r ((rs'.map V.ref).set piv.length (.ref rf))) r (((rs'.map V.ref).set piv.length (.ref rf)).set f (.ref rt)) = H₂ at m2 ⊢
      have oth2 : ∀ b, b ≠ r → H₂ b = H' b := fun b hb => by rw [← hH2, upd_ne hb, upd_ne hb]
      have hsw : swapM N piv.length f = (N.set piv.length (N.getD f [])).set f (N.getD piv.length []) := rfl
      rw [← hsw] at m2
      have hw2 : Rect (swapM N piv.length f) w := rect_swap hw' ht f2
      have hl2 : (swapM N piv.length f).length = N.length := swapM_length ..
      have hs2 : SmM K (swapM N piv.length f) := fun row hrow => by
        rcases List.mem_or_eq_of_mem_set hrow with q | q
        · rcases List.mem_or_eq_of_mem_set q with q | q
          · exact hsc row q
          · rw [q]; exact hsc _ (List.mem_of_getElem? (getD_row f2))
        · rw [q]; exact hsc _ (List.mem_of_getElem? (getD_row ht))
      have hent : ent (swapM N piv.length f) piv.length c ≠ 0 := by
        have : (swapM N piv.length f).getD piv.length [] = N.getD f [] := by
          rw [List.getD_eq_getElem?_getD, hsw]
          by_cases z : f = piv.length
          · subst z; rw [List.getElem?_set_self (by rw [List.length_set]; exact ht)]; rfl
          · rw [List.getElem?_set_ne z, List.getElem?_set_self ht]; rfl
        unfold ent; rw [this]; exact f4
      have hq2 : ∀ q ∈ (rs'.set piv.length rf).set f rt, q ≠ p := fun q hq' => by
        rcases List.mem_or_eq_of_mem_set hq' with z | z
        · rcases List.mem_or_eq_of_mem_set z with z | z
          · exact hq q z
          · rw [z]; exact hq rf (List.mem_of_getElem? hrf)
        · rw [z]; exact hq rt (List.mem_of_getElem? hrt)
      generalize hrs2 : (rs'.set piv.length rf).set f rt = rs₂ at m2 hq2
      generalize hM2 : swapM N piv.length f = N₂ at *
      clear hH2 hrs2 hHrt1 m1
      have hrl2 : rs₂.length = N₂.length := m2.len
      -- the scaling
      obtain ⟨r2, hr2, hr2a, hHr2⟩ := m2.getD (i := piv.length) (by omega)
      refine Sx_cons ?_
      repeat walk_at "stp"
      refine Ev_fn L 15 (by decide +kernel) (by decide +kernel) ?_
      repeat walk_at "stp"
      refine op_at m2.out hpl (refs_atN hr2) ?_
      repeat walk_at "stp"
      refine Ev_fn L 10 (by decide +kernel) (by decide +kernel) ?_
      refine Es_cons (Ev_one L (by decide +kernel) ?_)
      repeat walk_at "stp"
      refine op_at m2.out hpl (refs_atN hr2) ?_
      repeat walk_at "stp"
      refine op_at hHr2 (le1000 hc hwl) (qvs_atN (ent_getD (by omega) hw2 hc)) ?_
      repeat walk_at "stp"
      have hse := hs2.ent (i := piv.length) (c := c) (by omega) hw2 hc
      refine div_ok L (SmQ.one (k := 1) (by omega)) hse (by omega) hent ?_
      repeat walk_at "stp"
      have hsd := SmQ.div hent (SmQ.one (k := 1) (by omega)) hse
      have hrw2 : (N₂.getD piv.length []).length = w := rect_getD hw2 (by omega)
      refine scaled_ok L hHr2 (by omega) (hs2 _ (List.mem_of_getElem? (getD_row (by omega)))) hsd (by omega) fun b hb => ?_
      repeat walk_at "stp"
      have hbr : b ≠ r := fun z => by subst z; rw [m2.out] at hb; cases hb
      have hbp : b ≠ p := fun z => by subst z; rw [oth2 _ hpr, hp'] at hb; cases hb
      have m3 := (m2.grow (Grow.upd (vs := ((N₂.getD piv.length []).map (· * (1 / ent N₂ piv.length c))).map qv) hb)).set (i := piv.length) (r' := b) upd_same hbr
      refine ⟨r, _, _, rfl, rfl, by rw [upd_ne (Ne.symm hbr)]; exact m2.out, Int.natCast_nonneg _, Int.ofNat_lt.mpr (lt_refs (hl2 ▸ ht) hrl2), lt63 hpl, ?_⟩
      rw [Int.toNat_natCast]
      repeat walk_at "stp"
      generalize hH3 : upd (upd H₂ b (((N₂.getD piv.length []).map (· * (1 / ent N₂ piv.length c))).map qv)) r ((rs₂.map V.ref).set piv.length (.ref b)) = H₃ at m3 ⊢
      have oth3 : ∀ d, d ≠ r → d ≠ b → H₃ d = H' d := fun d hd hd' => by rw [← hH3, upd_ne hd, upd_ne hd', oth2 d hd]
      have hsc3 : scaleM N₂ piv.length c = N₂.set piv.length ((N₂.getD piv.length []).map (· * (1 / ent N₂ piv.length c))) := rfl
      rw [← hsc3] at m3
      have hw3 : Rect (scaleM N₂ piv.length c) w := rect_scale hw2 (by omega)
      have hl3 : (scaleM N₂ piv.length c).length = N₂.length := scaleM_length ..
      have hs3 : SmM (2 * K + 1) (scaleM N₂ piv.length c) := fun row hrow => by
        rcases List.mem_or_eq_of_mem_set hrow with q | q
        · exact fun x hx => (hs2 row q x hx).le (by omega)
        · rw [q]
          intro x hx
          obtain ⟨y, hy, rfl⟩ := List.mem_map.mp hx
          exact ((hs2 _ (List.mem_of_getElem? (getD_row (by omega))) y hy).mul hsd).le (by omega)
      have hq3 : ∀ q ∈ rs₂.set piv.length b, q ≠ p := fun q hq' => by
        rcases List.mem_or_eq_of_mem_set hq' with z | z
        · exact hq2 q z
        · rw [z]; exact hbp
      have hb0 : H b = none := by
        cases q : H b with
        | none => rfl
        | some vs => have := g _ _ q; rw [← oth2 b hbr, hb] at this; cases this
      -- the column cleared
      refine Sx_cons (St_Expr (Ev_fn L 18 (by decide +kernel) (by decide +kernel) ?_))
      repeat walk_at "stp"
      refine clear_ok (w := w) L m3 hw3 hc (by omega) (by omega) hwl hs3 (by omega) fun rs₄ H₄ g4 m4 => ?_
      refine ⟨rfl, ?_⟩
      repeat walk_at "stp"
      -- the pivot noted
      have hp3 : H₃ p = some (ivs piv) := by rw [oth3 p hpr (Ne.symm hbp)]; exact hp'
      have hp4 : H₄ p = some (ivs piv) := g4 _ _ hpr hp3
      refine Sx_cons (St_Expr (Ev_append ?_))
      repeat walk_at "stp"
      refine ⟨by rw [hp4]; rfl, ?_⟩
      repeat walk_at "stp"
      refine ⟨_, hp4, small (by rw [ivs_length]; omega), rfl, ?_⟩
      repeat walk_at "stp"
      have g5 : Grow H (upd H₄ p (ivs piv ++ [V.int (c : Nat)])) := grow_upd2 (fun d vs e => g4 _ _ (fun z => by subst z; rw [hr₀] at e; cases e) (by
        rw [oth3 d (fun z => by subst z; rw [hr₀] at e; cases e) (fun z => by subst z; rw [hb0] at e; cases e)]; exact g _ _ e)) hp0
      have hw4 : Rect (clearM (scaleM N₂ piv.length c) piv.length c) w := rect_clear hw3 (by omega)
      have hq4 := m4.notInts hw4 (by omega) hp4
      refine (kN _ _ ?_).1
      refine ⟨⟨rs₄, m4.other (upd_ne (Ne.symm hpr)) fun q hq' => upd_ne (hq4 q hq'), hq4⟩, by rw [upd_same, ivs_snoc], g5, by walk_at "mv", by walk_at "mv"⟩
    · have hf := findF_none hz
      have hstep : stepE c (N, piv) = (N, piv) := by
        unfold stepE; dsimp only; rw [hf]
      rw [hstep] at kN
      repeat walk_at "stp"
      refine Sx_cons ?_
      repeat walk_at "stp"
      refine iteP (by simp) ?_
      refine Sx_cons (St_Continue ?_)
      refine (kN _ _ ?_).2
      exact ⟨⟨rs', m', hq⟩, hp', g, by walk_at "mv", by walk_at "mv"⟩
  · rintro ρ' H' ⟨⟨rs', m', hq⟩, hp', g, h1, h2⟩
    refine ⟨trivial, item_rng_end, ?_⟩
    refine Sx_cons ?_
    repeat walk_at "stp"
    exact ⟨sz2, h r rs' p H' g m' hp'⟩
  · exact ⟨⟨rs₀, m₁, hprs⟩, upd_same, g₀.trans (Grow.upd hp), by walk_at "mv", by walk_at "mv"⟩

theorem rank_ok (L : Env1 X fa) {a : Addr} {rs : List Addr} {M : List (List Rat)} {w K : Nat} (m : MatAt H a rs M) (hw : Rect M w) (hne : 0 < M.length) (hl : M.length ≤ 100) (hwl : w ≤ 100)
    (hs : ∀ c, c ≤ w → SmM K (echUpto M c).1) (hK1 : 1 ≤ K) (hK : K ≤ 1000)
    (h : ∀ H', Grow H H' → Φ (.int ((echUpto M w).2.length : Nat)) H') : Calls X (n + 8) (.ref (fa 20)) [.ref a] H Φ := by
  refine call1 (a := "a") (L.fn 20) (by intros; rfl) (by decide +kernel) ?_
  refine Sx_cons (St_Return (Ev_len L (by decide +kernel) ?_))
  repeat walk_at "stp"
  refine Ev_fn L 19 (by decide +kernel) (by decide +kernel) ?_
  repeat walk_at "stp"
  refine ech_ok L m hw hne hl hwl hs hK1 hK fun r rs' p H' g m' hp => ?_
  repeat walk_at "stp"
  have := (echUpto_ok hw w).2.2
  refine call_size hp (by rw [ivs_length]) (by omega) ?_
  exact h H' g
end
theorem upd_upd {β : Type} {H : Addr → Option β} {a : Addr} {v w : β} : upd (upd H a v) a w = upd H a w := by
  funext b
  by_cases z : b = a
  · subst z; rw [upd_same, upd_same]
  · rw [upd_ne z, upd_ne z, upd_ne z]

/-- the keg: what is left, the cells, the place -/
structure KegAt (H : AH) (g l : Addr) (ns : List Int) (s t : Int) : Prop where
  keg : H g = some [.int s, .ref l, .int t]
  cells : H l = some (ns.map .int)
  ne : l ≠ g
  some_ : 0 < ns.length
  few : ns.length ≤ 100
  s0 : 0 ≤ s
  t0 : 0 ≤ t
  tb : t ≤ 1000000
theorem KegAt.set {H : AH} {g l : Addr} {ns : List Int} {s t s' t' : Int} (k : KegAt H g l ns s t) (h1 : 0 ≤ s') (h2 : 0 ≤ t') (h3 : t' ≤ 1000000) : KegAt (upd H g [.int s', .ref l, .int t']) g l ns s' t' :=
  ⟨upd_same, by rw [upd_ne k.ne]; exact k.cells, k.ne, k.some_, k.few, h1, h2, h3⟩

section
variable {X : X0} {fa : Nat → Addr} {n : Nat} {H : AH} {Φ : V → AH → Prop}

theorem sm_of {k : Nat} {x : Int} (h : -(2 ^ k : Nat) < x) (g : x < (2 ^ k : Nat)) : Sm k x := by unfold Sm; omega

theorem tap_ok (L : Env1 X fa) {g l : Addr} {ns : List Int} {s t top : Int} (k : KegAt H g l ns s t) (ht : t < 1000000) (h1 : 1 ≤ top) (h2 : top ≤ 100)
    (h : ∀ v s' t', 0 ≤ v → v < top → 0 ≤ s' → t ≤ t' → t' ≤ t + 1 → Φ (.int v) (upd H g [.int s', .ref l, .int t'])) : Calls X (n + 1) (.ref (fa 22)) [.ref g, .int top] H Φ := by
  refine call2 (a := "keg") (b := "top_of") (L.fn 22) (by intros; rfl) (by decide +kernel) ?_
  have key : ∀ (ρ : AL) (H' : AH) (s' t' : Int), KegAt H' g l ns s' t' → (∃ a b, H' = upd H g [.int a, .ref l, .int b]) ∨ H' = H → t ≤ t' → t' ≤ t + 1 → ρ "keg" = some (.ref g) → ρ "top_of" = some (.int top) →
      Sx X (fnSc 22) n ((fnBody 22).drop 1) ρ H' fun fl _ H' => Φ fl.val H' := by
    intro ρ H' s' t' k' hH ht1 ht2 g1 g2
    refine Sx_cons ?_
    repeat walk_at "stp"
    refine op_item_list (v := .int s') k'.keg (by decide) (by decide) rfl ?_
    repeat walk_at "stp"
    refine op_mod (by omega) ?_
    repeat walk_at "stp"
    refine Sx_cons ?_
    repeat walk_at "stp"
    refine op_item_list (v := .int s') k'.keg (by decide) (by decide) rfl ?_
    repeat walk_at "stp"
    refine op_div (by omega) (Nat.lt_trans ((Nat.log2_lt (by omega)).mpr (show top.natAbs < 2 ^ 7 by omega)) (by decide)) ?_
    repeat walk_at "stp"
    refine ⟨g, 0, _, rfl, rfl, k'.keg, by decide, by show (0 : Int) < 3; decide, by decide, ?_⟩
    have e : ([V.int s', V.ref l, V.int t'].set (0 : Int).toNat (V.int (s'.fdiv top))) = [V.int (s'.fdiv top), V.ref l, V.int t'] := rfl
    rw [e]
    repeat walk_at "blk"
    have eH : upd H' g [V.int (s'.fdiv top), V.ref l, V.int t'] = upd H g [V.int (s'.fdiv top), V.ref l, V.int t'] := by
      rcases hH with ⟨a, b, rfl⟩ | rfl
      · rw [upd_upd]
      · rfl
    rw [eH]
    obtain ⟨_, _, hm, _⟩ := fdiv_fmod_facts s' top
    obtain ⟨m1, m2⟩ := hm (by omega)
    refine h _ _ _ m1 m2 ?_ ht1 ht2
    rw [Int.fdiv_eq_ediv_of_nonneg _ (by omega)]
    exact Int.ediv_nonneg k'.s0 (by omega)
  refine Sx_cons ?_
  repeat walk_at "stp"
  refine op_item_list (v := .int s) k.keg (by decide) (by decide) rfl ?_
  repeat walk_at "stp"
  by_cases hs : s < 524288
  · refine iteP (by simpa using hs) ?_
    refine Sx_cons ?_
    repeat walk_at "stp"
    refine op_item_list (v := .int t) k.keg (by decide) (by decide) rfl ?_
    repeat walk_at "stp"
    refine Sx_cons ?_
    repeat walk_at "stp"
    refine ⟨g, 2, _, rfl, rfl, k.keg, by decide, by show (2 : Int) < 3; decide, by decide, ?_⟩
    have e : ([V.int s, V.ref l, V.int t].set (2 : Int).toNat (V.int (t + 1))) = [V.int s, V.ref l, V.int (t + 1)] := rfl
    rw [e]
    have t0 := k.t0
    have k1 := k.set (s' := s) (t' := t + 1) k.s0 (by omega) (by omega)
    repeat walk_at "stp"
    refine Sx_cons ?_
    repeat walk_at "stp"
    refine op_item_list (v := .ref l) k1.keg (by decide) (by decide) rfl ?_
    repeat walk_at "stp"
    refine Ev_len L (by decide +kernel) ?_
    repeat walk_at "stp"
    refine op_item_list (v := .ref l) k1.keg (by decide) (by decide) rfl ?_
    repeat walk_at "stp"
    have hn := k.some_
    have hf := k.few
    refine call_size k1.cells (by rw [List.length_map]) (by omega) ?_
    refine op_mod (by omega) ?_
    have ef : t.fmod (ns.length : Int) = t % (ns.length : Int) := Int.fmod_eq_emod_of_nonneg _ (by omega)
    rw [ef]
    have m1 := Int.emod_nonneg t (b := (ns.length : Int)) (by omega)
    have m2 := Int.emod_lt_of_pos t (b := (ns.length : Int)) (by omega)
    have hlt : (t % (ns.length : Int)).toNat < ns.length := by omega
    refine op_item_list (v := .int ns[(t % (ns.length : Int)).toNat]) k1.cells m1 (by omega) (by rw [List.getElem?_map, List.getElem?_eq_getElem hlt]; rfl) ?_
    generalize ns[(t % (ns.length : Int)).toNat] = cell
    repeat walk_at "stp"
    have fin : ∀ (ρ : AL) (v : Int), 0 ≤ v → ρ "keg" = some (.ref g) → ρ "top_of" = some (.int top) →
        Sx X (fnSc 22) n ((fnBody 22).drop 1) ρ (upd (upd H g [.int s, .ref l, .int (t + 1)]) g [.int v, .ref l, .int (t + 1)]) fun fl _ H' => Φ fl.val H' := by
      intro ρ v hv g1 g2
      rw [upd_upd]
      exact key ρ _ v (t + 1) (k.set hv (by omega) (by omega)) (.inl ⟨_, _, rfl⟩) (by omega) (by omega) g1 g2
    refine Sx_cons (St_If (Tv_mono (Φ := fun b H' => b = decide (t < (ns.length : Int) ∧ (10 : Int) ^ (18 : Int).toNat ≤ cell) ∧ H' = upd H g [.int s, .ref l, .int (t + 1)]) ?_ ?_))
    · repeat walk_at "stp"
      refine Ev_len L (by decide +kernel) ?_
      repeat walk_at "stp"
      refine op_item_list (v := .ref l) k1.keg (by decide) (by decide) rfl ?_
      repeat walk_at "stp"
      refine call_size k1.cells (by rw [List.length_map]) (by omega) ?_
      repeat walk_at "stp"
      by_cases ha : t < (ns.length : Int)
      · refine iteP (by simpa using ha) ?_
        repeat walk_at "stp"
        refine op_pow (by decide) (by decide) ?_
        repeat walk_at "stp"
        by_cases hc : (10 : Int) ^ (18 : Int).toNat ≤ cell
        · refine iteP (by simpa using hc) ?_
          repeat walk_at "stp"
          exact ⟨by rw [decide_eq_true (p := _ ∧ _) ⟨ha, hc⟩], rfl⟩
        · refine iteN (by simpa using hc) ?_
          exact ⟨by rw [decide_eq_false (p := _ ∧ _) fun q => hc q.2], rfl⟩
      · refine iteN (by simpa using ha) ?_
        exact ⟨by rw [decide_eq_false (p := _ ∧ _) fun q => ha q.1], rfl⟩
    rintro b H' ⟨rfl, rfl⟩
    have e : ∀ x, ([V.int s, V.ref l, V.int (t + 1)].set (0 : Int).toNat x) = [x, V.ref l, V.int (t + 1)] := fun _ => rfl
    by_cases hb : (t < (ns.length : Int) ∧ (10 : Int) ^ (18 : Int).toNat ≤ cell)
    · rw [decide_eq_true hb]
      refine iteT ?_
      refine Sx_cons ?_
      repeat walk_at "stp"
      refine op_pow (by decide) (by decide) ?_
      refine op_mod (by decide) ?_
      repeat walk_at "stp"
      refine ⟨g, 0, _, rfl, rfl, k1.keg, by decide, by show (0 : Int) < 3; decide, by decide, ?_⟩
      rw [e]
      repeat walk_at "stp"
      obtain ⟨_, _, hm', _⟩ := fdiv_fmod_facts cell ((10 : Int) ^ (52 : Int).toNat)
      refine fin _ _ (hm' (by decide)).1 ?_ ?_ <;> walk_at "mv"
    · rw [decide_eq_false hb]
      refine iteF ?_
      refine Sx_cons ?_
      repeat walk_at "stp"
      refine op_mod (by decide) ?_
      repeat walk_at "stp"
      refine op_mul (IntMulOk.of_left (by decide)) ?_
      repeat walk_at "stp"
      obtain ⟨_, _, hm, _⟩ := fdiv_fmod_facts cell 1000000000000037
      obtain ⟨c1, c2⟩ := hm (by decide)
      generalize hgr : cell.fmod 1000000000000037 + 887 * t + 53 = grain
      have gr1 : 0 ≤ grain := by omega
      have gr2 : grain < 2 ^ 60 := by omega
      have sg : Sm 60 grain := sm_of (by omega) (by omega)
      refine Sx_cons ?_
      repeat walk_at "stp"
      refine op_mul (mulOk sg sg (by decide)) ?_
      repeat walk_at "stp"
      refine op_mul (IntMulOk.of_right (by decide)) ?_
      repeat walk_at "stp"
      refine op_mul (IntMulOk.of_right (by decide)) ?_
      repeat walk_at "stp"
      refine op_mod (by decide) ?_
      repeat walk_at "stp"
      refine ⟨g, 0, _, rfl, rfl, k1.keg, by decide, by show (0 : Int) < 3; decide, by decide, ?_⟩
      rw [e]
      repeat walk_at "stp"
      obtain ⟨_, _, hm', _⟩ := fdiv_fmod_facts (grain * grain * 5 + grain * 7046029254386353131) 2305843009213693883
      refine fin _ _ (hm' (by decide)).1 ?_ ?_ <;> walk_at "mv"
  · refine iteN (by simpa using hs) ?_
    repeat walk_at "stp"
    exact key _ H s t k (.inr rfl) (by omega) (by omega) (by walk_at "mv") (by walk_at "mv")

/-! ### sums of rows -/
noncomputable def sumUpto (fs : List Rat) (M : List (List Rat)) (w : Nat) : Nat → List Rat
  | 0 => List.replicate w 0
  | k + 1 => (List.range w).map fun c => (sumUpto fs M w k).getD c 0 + fs.getD k 0 * ent M k c
theorem sumUpto_length (fs : List Rat) (M : List (List Rat)) (w : Nat) : ∀ k, (sumUpto fs M w k).length = w
  | 0 => by simp [sumUpto]
  | k + 1 => by simp [sumUpto]
noncomputable def sumBits (B K : Nat) : Nat → Nat
  | 0 => 1
  | k + 1 => sumBits B K k + (B + K) + 1
theorem sumUpto_bits {fs : List Rat} {M : List (List Rat)} {w B K : Nat} (hw : Rect M w) (hf : ∀ x ∈ fs, SmQ B x) (hs : SmM K M) : ∀ k, k ≤ fs.length → fs.length ≤ M.length → ∀ x ∈ sumUpto fs M w k, SmQ (sumBits B K k) x
  | 0, _, _, x, hx => by
    unfold sumUpto at hx
    rw [(List.mem_replicate.mp hx).2]; show SmQ 1 0; exact SmQ.zero (by decide)
  | k + 1, hk, hl, x, hx => by
    unfold sumUpto at hx
    obtain ⟨c, hc, rfl⟩ := List.mem_map.mp hx
    have hc' : c < w := List.mem_range.mp hc
    have ih := sumUpto_bits hw hf hs k (by omega) hl
    have h1 : (sumUpto fs M w k).getD c 0 ∈ sumUpto fs M w k := by
      rw [List.getD_eq_getElem?_getD, List.getElem?_eq_getElem (by rw [sumUpto_length]; exact hc')]; exact List.getElem_mem _
    have h2 : fs.getD k 0 ∈ fs := by
      rw [List.getD_eq_getElem?_getD, List.getElem?_eq_getElem (by omega)]; exact List.getElem_mem _
    exact (ih _ h1).add ((hf _ h2).mul (hs.ent (by omega) hw hc'))

theorem qvs_getD {row : List Rat} {i : Nat} (h : i < row.length) {k : Int} (hk : k = i) : (row.map qv)[k.toNat]? = some (qv (row.getD i 0)) := by
  subst hk; rw [Int.toNat_natCast, List.getElem?_map, List.getD_eq_getElem?_getD, List.getElem?_eq_getElem h]; rfl

theorem qvs_getDN {row : List Rat} {i : Nat} (h : i < row.length) : (row.map qv)[i]? = some (qv (row.getD i 0)) := by
  rw [List.getElem?_map, List.getD_eq_getElem?_getD, List.getElem?_eq_getElem h]; rfl

theorem sum_ok (L : Env1 X fa) {f a : Addr} {rs : List Addr} {fs : List Rat} {M : List (List Rat)} {w B K : Nat} (hf : H f = some (fs.map qv)) (m : MatAt H a rs M) (hw : Rect M w) (hl : fs.length ≤ M.length) (hM : M.length ≤ 100) (hwl : w ≤ 100)
    (hB : ∀ x ∈ fs, SmQ B x) (hs : SmM K M) (hb : sumBits B K fs.length + B + K ≤ 9000) (hmono : ∀ k, k ≤ fs.length → sumBits B K k + B + K ≤ 9000)
    (h : ∀ b H', Grow H H' → H' b = some ((sumUpto fs M w fs.length).map qv) → Φ (.ref b) H') : Calls X (n + 3) (.ref (fa 26)) [.ref f, .ref a, .int (w : Nat)] H Φ := by
  refine call3 (a := "factors_now") (b := "rows") (c := "width") (L.fn 26) (by intros; rfl) (by decide +kernel) ?_
  refine Sx_cons ?_
  repeat walk_at "stp"
  refine Ev_List (Es_cons (Ev_Tuple ?_))
  repeat walk_at "stp"
  refine ⟨sz2, ?_⟩
  repeat walk_at "stp"
  refine ⟨by decide, fun z hz => ?_⟩
  repeat walk_at "stp"
  refine op_mul1 (v := qv 0) upd_same (by omega) (by omega) fun d hd => ?_
  rw [Int.toNat_natCast]
  repeat walk_at "stp"
  have hz0 : Grow H (upd H z [qv 0]) := Grow.upd hz
  have hg0 := hz0.trans (Grow.upd (vs := List.replicate w (qv 0)) hd)
  refine Sx_cons (St_For (by decide +kernel) (It_upto L (by decide +kernel) (Ev_len L (by decide +kernel) ?_)))
  repeat walk_at "stp"
  refine call_size (hg0 _ _ hf) (by rw [List.length_map]) (by omega) ?_
  repeat walk_at "stp"
  refine ⟨by omega, fs.length, ?_⟩
  refine Lp_inv (fun i ρ' H' => Grow H H' ∧ (∃ d, H' d = some ((sumUpto fs M w i).map qv) ∧ ρ' "total" = some (.ref d)) ∧ ρ' "factors_now" = some (.ref f) ∧ ρ' "rows" = some (.ref a) ∧ ρ' "width" = some (.int (w : Nat))) fs.length ?_ ?_ ?_
  · rintro i ρ' H' hi ⟨g, ⟨d, hd, h1⟩, h2, h3, h4⟩
    refine ⟨_, item_upto hi, fun Ψ kN kR => ?_⟩
    have hsum := sumUpto_length fs M w i
    obtain ⟨r, hr, _, hHr⟩ := (m.grow g).getD (i := i) (by omega)
    have hrl : (M.getD i []).length = w := rect_getD hw (by omega)
    have hbits := sumUpto_bits hw hB hs i (by omega) hl
    have hmi := hmono i (by omega)
    refine Sx_cons (St_Assign (Ev_ListComp (by decide +kernel) (It_upto L (by decide +kernel) ?_)))
    repeat walk_at "stp"
    refine ⟨by omega, w, ?_⟩
    refine Cp_map (fun c H₁ acc => H₁ = H' ∧ acc = ((sumUpto fs M w (i + 1)).take c).map qv) w ?_ ?_ ⟨rfl, by simp⟩
    · rintro c H₁ acc hc ⟨rfl, rfl⟩
      refine ⟨_, item_upto hc, fun Ψ kE => ?_⟩
      refine Ev_fn L 24 (by decide +kernel) (by decide +kernel) ?_
      repeat walk_at "stp"
      refine op_at hd (le1000 hc hwl) (qvs_getDN (i := c) (by omega)) ?_
      repeat walk_at "stp"
      refine Ev_fn L 25 (by decide +kernel) (by decide +kernel) ?_
      repeat walk_at "stp"
      refine op_at (g _ _ hf) (le1000 (Nat.lt_of_lt_of_le hi hl) hM) (qvs_getDN (i := i) (by omega)) ?_
      repeat walk_at "stp"
      refine op_item_list (m.grow g).out (by omega) (by omega) (refs_at hr (by omega)) ?_
      repeat walk_at "stp"
      refine op_at hHr (le1000 hc hwl) (qvs_atN (ent_getD (by omega) hw hc)) ?_
      repeat walk_at "stp"
      have b1 : SmQ B (fs.getD i 0) := hB _ (by rw [List.getD_eq_getElem?_getD, List.getElem?_eq_getElem hi]; exact List.getElem_mem _)
      have b2 := hs.ent (i := i) (c := c) (by omega) hw hc
      refine by_ok L b1 b2 (by omega) ?_
      repeat walk_at "stp"
      have b3 : SmQ (sumBits B K i) ((sumUpto fs M w i).getD c 0) := hbits _ (by rw [List.getD_eq_getElem?_getD, List.getElem?_eq_getElem (by omega)]; exact List.getElem_mem _)
      refine plus_ok L b3 (b1.mul b2) (by omega) ?_
      refine kE _ _ ?_
      refine ⟨by rw [List.length_map, List.length_take, sumUpto_length]; exact Nat.le_trans (Nat.min_le_right _ _) (Nat.le_trans hwl (by decide)), rfl, ?_⟩
      have hlt : c < (sumUpto fs M w (i + 1)).length := by rw [sumUpto_length]; exact hc
      rw [← List.take_append_getElem hlt]
      simp only [List.map_append, List.map_cons, List.map_nil]
      congr 3
      simp [sumUpto]
    · rintro H₁ acc ⟨rfl, rfl⟩
      refine ⟨trivial, item_rng_end, fun b hb => ?_⟩
      repeat walk_at "stp"
      rw [List.take_of_length_le (by rw [sumUpto_length]; exact Nat.le_refl _)]
      refine (kN _ _ ?_).1
      exact ⟨g.trans (Grow.upd hb), ⟨b, upd_same, by walk_at "mv"⟩, by walk_at "mv", by walk_at "mv", by walk_at "mv"⟩
  · rintro ρ' H' ⟨g, ⟨d, hd, h1⟩, h2, h3, h4⟩
    refine ⟨trivial, item_rng_end, ?_⟩
    repeat walk_at "blk"
    exact h d H' g hd
  · exact ⟨hg0, ⟨d, by rw [upd_same]; simp [sumUpto], by walk_at "mv"⟩, by walk_at "mv", by walk_at "mv", by walk_at "mv"⟩
end
/-- a finite sum -/
noncomputable def sumTo : Nat → (Nat → Rat) → Rat
  | 0, _ => 0
  | n + 1, f => sumTo n f + f n
def sgn (i : Nat) : Rat := if i % 2 = 0 then 1 else -1
theorem sgn_succ (i : Nat) : sgn (i + 1) = -sgn i := by
  unfold sgn
  by_cases h : i % 2 = 0
  · rw [if_pos h, if_neg (by omega)]
  · rw [if_neg h, if_pos (by omega)]; rfl
/-- the determinant of a square, by its first column -/
noncomputable def sq : List Nat → List (List Rat) → Rat
  | [], _ => 1
  | c :: cs, M => sumTo M.length fun i => sgn i * (ent M i c * sq cs (M.eraseIdx i))

/-- its bits: k columns, r rows at the most -/
noncomputable def sqBits (K r : Nat) : Nat → Nat
  | 0 => 1
  | k + 1 => 1 + r * (K + sqBits K r k + 1 + 1)
theorem sgn_q (x : Rat) (i : Nat) : (sgn i).num * x.num = (sgn i * x).num ∧ x.den = (sgn i * x).den := by
  unfold sgn
  split
  · rw [Rat.one_mul]; exact ⟨by show (1 : Int) * _ = _; omega, rfl⟩
  · have e : (-1 : Rat) * x = -x := by grind
    rw [e]
    have e1 : (-1 : Rat).num = -1 := rfl
    have e2 : (-x).num = -x.num := Rat.neg_num x
    have e3 : (-x).den = x.den := Rat.neg_den x
    rw [e1, e2, e3]; exact ⟨by omega, rfl⟩
theorem sgn_bits (i : Nat) {k : Nat} {x : Rat} (h : SmQ k x) : SmQ k (sgn i * x) := by
  obtain ⟨e1, e2⟩ := sgn_q x i
  refine ⟨?_, by rw [← e2]; exact h.2⟩
  unfold sgn
  split
  · rw [Rat.one_mul]; exact h.1
  · have e : (-1 : Rat) * x = -x := by grind
    rw [e, Rat.neg_num]; exact h.1.neg

theorem sumTo_bits {f : Nat → Rat} {b : Nat} : ∀ n, (∀ i, i < n → SmQ b (f i)) → SmQ (1 + n * (b + 1)) (sumTo n f)
  | 0, _ => SmQ.zero (by omega)
  | n + 1, h => by
    have := (sumTo_bits n fun i hi => h i (by omega)).add (h n (by omega))
    refine this.le ?_
    rw [Nat.add_mul]; omega
theorem eraseIdx_mem {M : List (List Rat)} {i : Nat} {row : List Rat} (h : row ∈ M.eraseIdx i) : row ∈ M := List.mem_of_mem_eraseIdx h
theorem sq_bits {K r w : Nat} : ∀ (cs : List Nat) (M : List (List Rat)), Rect M w → SmM K M → M.length ≤ r → (∀ c ∈ cs, c < w) → SmQ (sqBits K r cs.length) (sq cs M)
  | [], M, _, _, _, _ => SmQ.one (k := 1) (by decide)
  | c :: cs, M, hw, hs, hr, hc => by
    unfold sq
    have hstep : ∀ i, i < M.length → SmQ (K + sqBits K r cs.length + 1) (sgn i * (ent M i c * sq cs (M.eraseIdx i))) := fun i hi => by
      have ih := sq_bits cs (M.eraseIdx i) (fun row h => hw row (eraseIdx_mem h)) (fun row h => hs row (eraseIdx_mem h)) (Nat.le_trans (List.length_eraseIdx_le ..) hr) fun d hd => hc d (List.mem_cons_of_mem _ hd)
      exact (sgn_bits i ((hs.ent hi hw (hc c List.mem_cons_self)).mul ih)).le (by omega)
    refine (sumTo_bits M.length hstep).le ?_
    show _ ≤ 1 + r * (K + sqBits K r cs.length + 1 + 1)
    have := Nat.mul_le_mul_right (K + sqBits K r cs.length + 1 + 1) hr
    omega

section
variable {X : X0} {fa : Nat → Addr} {n : Nat} {H : AH} {Φ : V → AH → Prop}

theorem take_drop_map {α β : Type} (f : α → β) (l : List α) (i : Nat) : (l.map f).take i ++ (l.map f).drop (i + 1) = (l.eraseIdx i).map f := by
  rw [List.eraseIdx_eq_take_drop_succ, List.map_append, List.map_take, List.map_drop]

/-- rows at hand, in whatever list -/
structure RowsAt (H : AH) (a : Addr) (rs : List Addr) (M : List (List Rat)) : Prop where
  len : rs.length = M.length
  out : H a = some (rs.map V.ref)
  row : ∀ (i : Nat) (r : Addr), rs[i]? = some r → ∃ row : List Rat, M[i]? = some row ∧ H r = some (row.map qv)
theorem RowsAt.grow {H H' : AH} {a : Addr} {rs : List Addr} {M : List (List Rat)} (m : RowsAt H a rs M) (g : Grow H H') : RowsAt H' a rs M :=
  ⟨m.len, g _ _ m.out, fun i r e => let ⟨row, h1, h2⟩ := m.row i r e; ⟨row, h1, g _ _ h2⟩⟩
theorem MatAt.rows {H : AH} {a : Addr} {rs : List Addr} {M : List (List Rat)} (m : MatAt H a rs M) : RowsAt H a rs M := ⟨m.len, m.out, m.row⟩
theorem RowsAt.getD {H : AH} {a : Addr} {rs : List Addr} {M : List (List Rat)} (m : RowsAt H a rs M) {i : Nat} (h : i < M.length) : ∃ r, rs[i]? = some r ∧ H r = some ((M.getD i []).map qv) := by
  have hlt : i < rs.length := by rw [m.len]; exact h
  obtain ⟨row, h1, h2⟩ := m.row i rs[i] (List.getElem?_eq_getElem hlt)
  refine ⟨rs[i], List.getElem?_eq_getElem hlt, ?_⟩
  rw [List.getD_eq_getElem?_getD, h1]; exact h2
theorem erase_get {α : Type} (l : List α) (i j : Nat) : (l.eraseIdx i)[j]? = if j < i then l[j]? else l[j + 1]? := List.getElem?_eraseIdx ..
theorem RowsAt.erase {H : AH} {a b : Addr} {rs : List Addr} {M : List (List Rat)} {i : Nat} (m : RowsAt H a rs M) (hi : i < M.length) (hb : H b = some ((rs.eraseIdx i).map V.ref)) : RowsAt H b (rs.eraseIdx i) (M.eraseIdx i) where
  len := by rw [List.length_eraseIdx_of_lt (by rw [m.len]; exact hi), List.length_eraseIdx_of_lt hi, m.len]
  out := hb
  row j r e := by
    rw [erase_get] at e ⊢
    split at e
    · rename_i h; rw [if_pos h]; exact m.row _ r e
    · rename_i h; rw [if_neg h]; exact m.row _ r e

theorem sqUpto_eq (M : List (List Rat)) (c : Nat) (cs : List Nat) : sq (c :: cs) M = sumTo M.length fun i => sgn i * (ent M i c * sq cs (M.eraseIdx i)) := rfl

theorem square_ok (L : Env1 X fa) {K r w : Nat} (hr : r ≤ 10) (hK : K ≤ 100) (hwl : w ≤ 100) : ∀ (cs : List Nat) (M : List (List Rat)) (n : Nat) (H : AH) (Φ : V → AH → Prop) (a p : Addr) (rs : List Addr),
    RowsAt H a rs M → H p = some (ivs cs) → Rect M w → SmM K M → M.length ≤ r → cs.length ≤ 10 → (∀ c ∈ cs, c < w) → (∀ k, k ≤ cs.length → sqBits K r k ≤ 4000) → (∀ H', Grow H H' → Φ (qv (sq cs M)) H') →
    Calls X (n + 3 + cs.length) (.ref (fa 27)) [.ref a, .ref p] H Φ := by
  intro cs
  induction cs with
  | nil =>
    intro M n H Φ a p rs m hp hw hs hM hl hc hbits h
    refine call2 (a := "rows") (b := "columns") (L.fn 27) (by intros; rfl) (by decide +kernel) ?_
    refine Sx_cons ?_
    repeat walk_at "stp"
    refine Ev_len L (by decide +kernel) ?_
    repeat walk_at "stp"
    refine call_len hp (by simp [ivs]) ?_
    repeat walk_at "stp"
    refine iteP (by simp [ivs]) ?_
    repeat walk_at "blk"
    exact ⟨sz2, h H (Grow.refl _)⟩
  | cons c cs ih =>
    intro M n H Φ a p rs m hp hw hs hM hl hc hbits h
    have e : n + 3 + (c :: cs).length = (n + 3 + cs.length) + 1 := by simp; omega
    rw [e]
    refine call2 (a := "rows") (b := "columns") (L.fn 27) (by intros; rfl) (by decide +kernel) ?_
    have hM1000 : M.length ≤ 1000 := Nat.le_trans hM (Nat.le_trans hr (by decide))
    have hlc : cs.length ≤ 10 := by simp at hl; omega
    have hcw : c < w := hc c List.mem_cons_self
    refine Sx_cons ?_
    repeat walk_at "stp"
    refine Ev_len L (by decide +kernel) ?_
    repeat walk_at "stp"
    refine call_len hp (by simp [ivs]; omega) ?_
    repeat walk_at "stp"
    refine iteN (by simp [ivs]; omega) ?_
    repeat walk_at "stp"
    refine Sx_cons ?_
    repeat walk_at "stp"
    refine ⟨sz2, ?_⟩
    repeat walk_at "stp"
    refine Sx_cons ?_
    repeat walk_at "stp"
    refine Sx_cons (St_For (by decide +kernel) (It_upto L (by decide +kernel) (Ev_len L (by decide +kernel) ?_)))
    repeat walk_at "stp"
    refine call_size m.out (by rw [List.length_map, m.len]) hM1000 ?_
    repeat walk_at "stp"
    refine ⟨hM1000, M.length, ?_⟩
    have hterm : ∀ i, i < M.length → SmQ (sqBits K r cs.length) (sq cs (M.eraseIdx i)) := fun i hi =>
      sq_bits cs _ (fun row q => hw row (eraseIdx_mem q)) (fun row q => hs row (eraseIdx_mem q)) (Nat.le_trans (List.length_eraseIdx_le ..) hM) fun d hd => hc d (List.mem_cons_of_mem _ hd)
    have hb1 := hbits cs.length (by simp)
    have hb2 := hbits (cs.length + 1) (by simp)
    have hb2' : 1 + r * (K + sqBits K r cs.length + 1 + 1) ≤ 4000 := hb2
    have hstep : ∀ i, i < M.length → SmQ (K + sqBits K r cs.length + 1) (sgn i * (ent M i c * sq cs (M.eraseIdx i))) := fun i hi =>
      (sgn_bits i ((hs.ent hi hw hcw).mul (hterm i hi))).le (by omega)
    have hacc : ∀ i, i ≤ M.length → SmQ 4000 (sumTo i fun i => sgn i * (ent M i c * sq cs (M.eraseIdx i))) := fun i hi =>
      (sumTo_bits i fun j hj => hstep j (by omega)).le (by
        have := Nat.mul_le_mul_right (K + sqBits K r cs.length + 1 + 1) (Nat.le_trans hi hM); omega)
    refine Lp_inv (fun i ρ' H' => Grow H H' ∧ ρ' "rows" = some (.ref a) ∧ ρ' "columns" = some (.ref p) ∧ ρ' "total" = some (qv (sumTo i fun i => sgn i * (ent M i c * sq cs (M.eraseIdx i)))) ∧ ρ' "side" = some (.int (sgn i).num)) M.length ?_ ?_ ?_
    · rintro i ρ' H' hi ⟨g, h1, h2, h3, h4⟩
      refine ⟨_, item_upto hi, fun Ψ kN kR => ?_⟩
      have m' := m.grow g
      have hp' := g _ _ hp
      obtain ⟨ri, hri, hHri⟩ := m'.getD hi
      refine Sx_cons ?_
      repeat walk_at "stp"
      refine Ev_fn L 27 (by decide +kernel) (by decide +kernel) ?_
      refine Es_cons ?_
      refine Ev_BinOp (Ev_upto ?_)
      repeat walk_at "stp"
      refine ⟨_, _, _, rfl, rfl, Int.natCast_nonneg i, m'.out, by rw [List.length_map, m'.len]; exact Nat.le_trans hM (Nat.le_trans hr (by decide)), fun b1 hb1' => ?_⟩
      refine Ev_from ?_
      repeat walk_at "stp"
      refine ⟨_, _, _, rfl, rfl, Int.natCast_nonneg (i + 1), Grow.upd hb1' _ _ m'.out, by rw [List.length_map, m'.len]; exact Nat.le_trans hM (Nat.le_trans hr (by decide)), fun b2 hb2' => ?_⟩
      have hbb : b1 ≠ b2 := fun z => by subst z; rw [upd_same] at hb2'; cases hb2'
      refine op_addlist (by rw [upd_ne hbb]; exact upd_same) upd_same (small_cut _ _ _ (by rw [List.length_map, m'.len]; exact Nat.le_trans hM (Nat.le_trans hr (by decide)))) fun b3 hb3' => ?_
      have e1 : ((i : Nat) : Int).toNat = i := rfl
      have e2 : (((i : Nat) : Int) + 1).toNat = i + 1 := rfl
      rw [e1, e2, take_drop_map]
      have g1 : Grow H' (upd (upd (upd H' b1 ((rs.map V.ref).take i)) b2 ((rs.map V.ref).drop (i + 1))) b3 ((rs.eraseIdx i).map V.ref)) :=
        ((Grow.upd hb1').trans (Grow.upd (by rw [e1] at hb2'; exact hb2'))).trans (Grow.upd (by rw [e1, e2] at hb3'; exact hb3'))
      generalize hH1 : upd (upd (upd H' b1 ((rs.map V.ref).take i)) b2 ((rs.map V.ref).drop (i + 1))) b3 ((rs.eraseIdx i).map V.ref) = H₁ at g1
      have m1 : RowsAt H₁ b3 (rs.eraseIdx i) (M.eraseIdx i) := (m'.grow g1).erase hi (by rw [← hH1]; exact upd_same)
      refine Es_cons (Ev_from ?_)
      repeat walk_at "stp"
      refine ⟨_, _, _, rfl, rfl, by decide, g1 _ _ hp', by rw [ivs_length]; exact Nat.le_trans hl (by decide), fun b4 hb4' => ?_⟩
      repeat walk_at "stp"
      have e3 : (ivs (c :: cs)).drop (1 : Int).toNat = ivs cs := rfl
      rw [e3]
      have g2 := g1.trans (Grow.upd (vs := ivs cs) hb4')
      have := ih (M.eraseIdx i) n (upd H₁ b4 (ivs cs))
      refine this _ b3 b4 _ (m1.grow (Grow.upd hb4')) upd_same (fun row q => hw row (eraseIdx_mem q)) (fun row q => hs row (eraseIdx_mem q)) (Nat.le_trans (List.length_eraseIdx_le ..) hM) hlc (fun d hd => hc d (List.mem_cons_of_mem _ hd)) (fun k hk => hbits k (by simp; omega)) fun H₂ g3 => ?_
      have g4 := g2.trans g3
      have m4 := m'.grow g4
      repeat walk_at "stp"
      refine Sx_cons ?_
      repeat walk_at "stp"
      refine Ev_fn L 25 (by decide +kernel) (by decide +kernel) ?_
      repeat walk_at "stp"
      refine op_at m4.out (Nat.le_trans (Nat.le_of_lt hi) (Nat.le_trans hM (Nat.le_trans hr (by decide)))) (refs_atN hri) ?_
      repeat walk_at "stp"
      refine op_item_list (v := .int (c : Nat)) (g4 _ _ hp') (by decide) (by decide) rfl ?_
      refine op_at (g4 _ _ hHri) (le1000 hcw hwl) (qvs_atN (ent_getD hi hw hcw)) ?_
      repeat walk_at "stp"
      refine (by_ok (n := n + 1 + cs.length) L (hs.ent hi hw hcw) (hterm i hi) (by omega) ?_).le (by omega)
      repeat walk_at "stp"
      refine Sx_cons ?_
      repeat walk_at "stp"
      refine Ev_fn L 24 (by decide +kernel) (by decide +kernel) ?_
      refine Es_cons ?_
      repeat walk_at "stp"
      refine op_mul (IntMulOk.of_left (by unfold sgn; split <;> decide)) ?_
      repeat walk_at "stp"
      refine ⟨sz2, ?_⟩
      repeat walk_at "stp"
      obtain ⟨q1, q2⟩ := sgn_q (ent M i c * sq cs (M.eraseIdx i)) i
      rw [q1, q2]
      refine (plus_ok (n := n + 1 + cs.length) (k := 4000) (l := K + sqBits K r cs.length + 1) L (hacc i (by omega)) (hstep i hi) (by omega) ?_).le (by omega)
      repeat walk_at "stp"
      refine Sx_cons ?_
      repeat walk_at "stp"
      refine (kN _ _ ?_).1
      refine ⟨g.trans g4, by walk_at "mv", by walk_at "mv", by show _ = some (qv (sumTo i (fun i => sgn i * (ent M i c * sq cs (M.eraseIdx i))) + sgn i * (ent M i c * sq cs (M.eraseIdx i)))); walk_at "mv", ?_⟩
      have e5 : 0 - (sgn i).num = (sgn (i + 1)).num := by rw [sgn_succ, Rat.neg_num]; omega
      rw [e5]; walk_at "mv"
    · rintro ρ' H' ⟨g, h1, h2, h3, h4⟩
      refine ⟨trivial, item_rng_end, ?_⟩
      repeat walk_at "blk"
      exact h H' g
    · refine ⟨Grow.refl _, by walk_at "mv", by walk_at "mv", ?_, ?_⟩
      · show _ = some (V.tup [V.int 0, V.int 1]); walk_at "mv"
      · show _ = some (V.int 1); walk_at "mv"

/-! ### the choices of rows -/
noncomputable def choices : List (List Rat) → Nat → List (List Nat)
  | _, 0 => [[]]
  | M, k + 1 => choices M k ++ (choices M k).map (· ++ [k])
theorem choices_lt (M : List (List Rat)) : ∀ k, ∀ ch ∈ choices M k, ∀ j ∈ ch, j < k
  | 0, ch, h, j, hj => by simp [choices] at h; subst h; cases hj
  | k + 1, ch, h, j, hj => by
    unfold choices at h
    rcases List.mem_append.mp h with h | h
    · exact Nat.lt_succ_of_lt (choices_lt M k ch h j hj)
    · obtain ⟨c, hc, rfl⟩ := List.mem_map.mp h
      rcases List.mem_append.mp hj with q | q
      · exact Nat.lt_succ_of_lt (choices_lt M k c hc j q)
      · simp at q; omega
theorem choices_len (M : List (List Rat)) : ∀ k, (choices M k).length = 2 ^ k
  | 0 => rfl
  | k + 1 => by unfold choices; rw [List.length_append, List.length_map, choices_len M k, Nat.pow_succ]; omega
theorem choice_short (M : List (List Rat)) : ∀ k, ∀ ch ∈ choices M k, ch.length ≤ k
  | 0, ch, h => by simp [choices] at h; subst h; simp
  | k + 1, ch, h => by
    unfold choices at h
    rcases List.mem_append.mp h with h | h
    · exact Nat.le_succ_of_le (choice_short M k ch h)
    · obtain ⟨c, hc, rfl⟩ := List.mem_map.mp h
      have := choice_short M k c hc
      simp; omega
def pick (M : List (List Rat)) (ch : List Nat) : List (List Rat) := ch.map fun j => M.getD j []
def pickA (rs : List Addr) (ch : List Nat) : List V := ch.map fun j => V.ref (rs.getD j 0)

theorem pick_rows {H : AH} {a b : Addr} {rs : List Addr} {M : List (List Rat)} {ch : List Nat} (m : MatAt H a rs M) (hc : ∀ j ∈ ch, j < M.length) (hb : H b = some (pickA rs ch)) : RowsAt H b (ch.map fun j => rs.getD j 0) (pick M ch) where
  len := by simp [pick]
  out := by rw [hb]; simp [pickA]
  row i r e := by
    rw [List.getElem?_map] at e
    cases q : ch[i]? with
    | none => rw [q] at e; cases e
    | some j =>
      rw [q] at e
      obtain ⟨ra, h1, _, h2⟩ := m.getD (hc j (List.mem_of_getElem? q))
      have : rs.getD j 0 = ra := by rw [List.getD_eq_getElem?_getD, h1]; rfl
      simp only [Option.map_some, Option.some.injEq] at e
      subst e
      exact ⟨M.getD j [], by simp [pick, q], by rw [this]; exact h2⟩

theorem free_ok (L : Env1 X fa) {K w : Nat} {a p : Addr} {rs : List Addr} {M : List (List Rat)} {cs : List Nat} (m : MatAt H a rs M) (hp : H p = some (ivs cs)) (hw : Rect M w) (hwl : w ≤ 100) (hs : SmM K M) (hK : K ≤ 100) (hM : M.length ≤ 3) (hl : cs.length ≤ 3)
    (hc : ∀ c ∈ cs, c < w) (hbits : ∀ k, k ≤ cs.length → sqBits K 3 k ≤ 4000) (hfree : ∃ ch ∈ choices M M.length, ch.length = cs.length ∧ sq cs (pick M ch) ≠ 0) (h : ∀ H', Grow H H' → Φ (.bool true) H') :
    Calls X (n + 7) (.ref (fa 28)) [.ref a, .ref p] H Φ := by
  refine call2 (a := "lines_of") (b := "pivots") (L.fn 28) (by intros; rfl) (by decide +kernel) ?_
  refine Sx_cons ?_
  repeat walk_at "stp"
  refine Ev_List (Es_cons (Ev_List (Es_nil ⟨by decide, fun e0 he0 => ?_⟩)))
  repeat walk_at "stp"
  refine ⟨small (by simp), fun c0 hc0 => ?_⟩
  repeat walk_at "stp"
  have hec : e0 ≠ c0 := fun z => by subst z; rw [upd_same] at hc0; cases hc0
  refine Sx_cons (St_For (by decide +kernel) (It_list ?_))
  repeat walk_at "stp"
  have g0 : Grow H (upd (upd H e0 []) c0 [V.ref e0]) := (Grow.upd he0).trans (Grow.upd hc0)
  refine ⟨a, _, rfl, g0 _ _ m.out, M.length, ?_⟩
  refine Lp_inv (fun i ρ' H' => Grow H H' ∧ (∃ ca cas, ρ' "choices" = some (.ref ca) ∧ H' ca = some (List.map V.ref cas) ∧ cas.length = (choices M i).length ∧ ∀ (j : Nat) (r : Addr), cas[j]? = some r → ∃ ch, (choices M i)[j]? = some ch ∧ H' r = some (pickA rs ch)) ∧ ρ' "pivots" = some (.ref p)) M.length ?_ ?_ ?_
  · rintro i ρ' H' hi ⟨g, ⟨ca, cas, h1, h2, h3, h4⟩, h5⟩
    have m' := m.grow g
    obtain ⟨r, hr, _, hHr⟩ := m'.getD hi
    refine ⟨.ref r, by rw [item_lst m'.out, List.getElem?_map, hr]; rfl, fun Ψ kN kR => ?_⟩
    have hcl : (choices M i).length ≤ 8 := by
      rw [choices_len]
      have : 2 ^ i ≤ 2 ^ 3 := Nat.pow_le_pow_right (by decide) (by omega)
      exact this
    refine Sx_cons (St_Assign (Ev_BinOp ?_))
    repeat walk_at "stp"
    refine Ev_ListComp (by decide +kernel) (It_list ?_)
    repeat walk_at "stp"
    refine ⟨ca, _, rfl, h2, cas.length, Cp_map (fun k H₁ acc => Grow H' H₁ ∧ ∃ nas : List Addr, acc = nas.map V.ref ∧ nas.length = k ∧ ∀ (j : Nat) (r : Addr), nas[j]? = some r → ∃ ch, (choices M i)[j]? = some ch ∧ H₁ r = some (pickA rs (ch ++ [i]))) cas.length ?_ ?_ ⟨Grow.refl _, [], rfl, rfl, fun j r e => by simp at e⟩⟩
    · rintro k H₁ acc hk ⟨g1, nas, rfl, n1, n2⟩
      obtain ⟨ch, hch, hHc⟩ := h4 k cas[k] (List.getElem?_eq_getElem hk)
      refine ⟨.ref cas[k], by rw [item_lst (g1 _ _ h2), List.getElem?_map, List.getElem?_eq_getElem hk]; rfl, fun Ψ' kE => ?_⟩
      refine Ev_BinOp ?_
      repeat walk_at "stp"
      refine Ev_List (Es_cons ?_)
      repeat walk_at "stp"
      refine ⟨small (by simp), fun d1 hd1 => ?_⟩
      have hcs := choice_short M i ch (List.mem_of_getElem? hch)
      refine op_addlist (Grow.upd hd1 _ _ (g1 _ _ hHc)) upd_same (small (by simp [pickA]; omega)) fun d2 hd2 => ?_
      have g2 : Grow H₁ (upd (upd H₁ d1 [V.ref r]) d2 (pickA rs ch ++ [V.ref r])) := (Grow.upd hd1).trans (Grow.upd hd2)
      refine kE _ _ ?_
      refine ⟨by rw [List.length_map, n1]; exact small (by omega), g1.trans g2, nas ++ [d2], by simp, by simp [n1], fun j r' e => ?_⟩
      rw [List.getElem?_append] at e
      split at e
      · obtain ⟨ch', q1, q2⟩ := n2 j r' e
        exact ⟨ch', q1, g2 _ _ q2⟩
      · have hj := last_ix e
        have hji : j = k := (ix_eq ‹_› hj).trans n1
        subst hji
        rw [hj] at e; simp at e; subst e
        refine ⟨ch, hch, ?_⟩
        rw [upd_same]
        have : rs.getD i 0 = r := by rw [List.getD_eq_getElem?_getD, hr]; rfl
        simp only [pickA, List.map_append, List.map_cons, List.map_nil, this]
    · rintro H₁ acc ⟨g1, nas, rfl, n1, n2⟩
      refine ⟨ok_lst (g1 _ _ h2), by rw [item_lst (g1 _ _ h2)]; exact List.getElem?_eq_none (by simp), fun b hb => ?_⟩
      refine op_addlist (Grow.upd hb _ _ (g1 _ _ h2)) upd_same (small (by rw [List.length_map, List.length_map]; omega)) fun b2 hb2 => ?_
      have g2 : Grow H₁ (upd (upd H₁ b (nas.map V.ref)) b2 (cas.map V.ref ++ nas.map V.ref)) := (Grow.upd hb).trans (Grow.upd hb2)
      repeat walk_at "stp"
      refine (kN _ _ ?_).1
      refine ⟨g.trans (g1.trans g2), ⟨b2, cas ++ nas, by walk_at "mv", by rw [upd_same, List.map_append], ?_, fun j r' e => ?_⟩, by walk_at "mv"⟩
      · unfold choices; rw [List.length_append, List.length_append, List.length_map]; omega
      · unfold choices
        rw [List.getElem?_append] at e ⊢
        by_cases hj : j < cas.length
        · rw [if_pos hj] at e
          rw [if_pos (by omega)]
          obtain ⟨ch, q1, q2⟩ := h4 j r' e
          exact ⟨ch, q1, g2 _ _ (g1 _ _ q2)⟩
        · rw [if_neg hj] at e
          rw [if_neg (by omega)]
          obtain ⟨ch, q1, q2⟩ := n2 _ r' e
          rw [List.getElem?_map, ← h3, q1]
          exact ⟨_, rfl, g2 _ _ q2⟩
  · rintro ρ' H' ⟨g, ⟨ca, cas, h1, h2, h3, h4⟩, h5⟩
    refine ⟨ok_lst (g _ _ m.out), by rw [item_lst (g _ _ m.out)]; exact List.getElem?_eq_none (by simp [m.len]), ?_⟩
    refine Sx_cons (St_For (by decide +kernel) (It_list ?_))
    repeat walk_at "stp"
    refine ⟨ca, _, rfl, h2, cas.length, ?_⟩
    refine Lp_inv (fun i ρ'' H'' => Grow H' H'' ∧ ρ'' "pivots" = some (.ref p) ∧ ∀ j ch, j < i → (choices M M.length)[j]? = some ch → ch.length = cs.length → sq cs (pick M ch) = 0) cas.length ?_ ?_ ?_
    · rintro i ρ'' H'' hi ⟨g1, k1, k2⟩
      obtain ⟨ch, hch, hHc⟩ := h4 i cas[i] (List.getElem?_eq_getElem hi)
      refine ⟨.ref cas[i], by rw [item_lst (g1 _ _ h2), List.getElem?_map, List.getElem?_eq_getElem hi]; rfl, fun Ψ kN kR => ?_⟩
      have hcm := List.mem_of_getElem? hch
      have hcs := choice_short M M.length ch hcm
      refine Sx_cons ?_
      repeat walk_at "stp"
      refine Ev_len L (by decide +kernel) ?_
      repeat walk_at "stp"
      refine call_len (g1 _ _ hHc) (by simp [pickA]; omega) ?_
      repeat walk_at "stp"
      refine Ev_len L (by decide +kernel) ?_
      repeat walk_at "stp"
      refine call_size (g1 _ _ (g _ _ hp)) (by rw [ivs_length]) (by omega) ?_
      repeat walk_at "stp"
      by_cases hlen : ch.length = cs.length
      · refine iteP (by simp [pickA, hlen]) ?_
        repeat walk_at "stp"
        refine Ev_fn L 27 (by decide +kernel) (by decide +kernel) ?_
        repeat walk_at "stp"
        have hlt := choices_lt M M.length ch hcm
        have m2 := pick_rows (m.grow (g.trans g1)) hlt (g1 _ _ hHc)
        have hmem : ∀ row ∈ pick M ch, row ∈ M := fun row hrow => by
          obtain ⟨j, hj, rfl⟩ := List.mem_map.mp hrow
          exact List.mem_of_getElem? (getD_row (hlt j hj))
        refine (square_ok L (K := K) (r := 3) (w := w) (by decide) hK hwl cs (pick M ch) n H'' _ _ p _ m2 (g1 _ _ (g _ _ hp)) (fun row q => hw row (hmem row q)) (fun row q => hs row (hmem row q)) (by simp [pick]; omega) (by omega) hc hbits fun H₃ g3 => ?_).le (by omega)
        repeat walk_at "stp"
        refine ⟨sz2, ?_⟩
        refine Op_ne_q (y := 0) ?_
        repeat walk_at "stp"
        by_cases hz : sq cs (pick M ch) = 0
        · refine iteN (by simpa using hz) ?_
          repeat walk_at "stp"
          refine (kN _ _ ?_).1
          refine ⟨g1.trans g3, by walk_at "mv", fun j ch' hj hj' hl' => ?_⟩
          by_cases z : j = i
          · subst z; rw [hch] at hj'; cases hj'; exact hz
          · exact k2 j ch' (by omega) hj' hl'
        · refine iteP (by simpa using hz) ?_
          repeat walk_at "blk"
          exact kR _ _ _ (h H₃ (g.trans (g1.trans g3)))
      · refine iteN (by simp [pickA]; omega) ?_
        repeat walk_at "stp"
        refine (kN _ _ ?_).1
        refine ⟨g1, by walk_at "mv", fun j ch' hj hj' hl' => ?_⟩
        by_cases z : j = i
        · subst z; rw [hch] at hj'; cases hj'; exact (hlen hl').elim
        · exact k2 j ch' (by omega) hj' hl'
    · rintro ρ'' H'' ⟨g1, k1, k2⟩
      obtain ⟨ch, hcm, hcl, hne⟩ := hfree
      obtain ⟨j, hj⟩ := List.getElem?_of_mem hcm
      exact (hne (k2 j ch (by rw [h3]; exact (List.getElem?_eq_some_iff.mp hj).1) hj hcl)).elim
    · exact ⟨Grow.refl _, by walk_at "mv", fun j ch hj => by omega⟩
  · refine ⟨g0, ⟨c0, [e0], by walk_at "mv", upd_same, rfl, fun j r e => ?_⟩, by walk_at "mv"⟩
    cases j with
    | zero => simp at e; subst e; exact ⟨[], rfl, by rw [upd_ne hec]; exact upd_same⟩
    | succ j => simp at e
end
/-! ### data that lists hold -/
def qd (x : Rat) : PyData := .tuple [.int x.num, .int x.den]
def flat : List PyData → Bool := fun ds => PyData.canLayAll0 ds && decide (PyData.depthAll ds ≤ 3)
theorem RD.q {H : AH} (x : Rat) : RD H (qv x) (qd x) := .tup (.cons (.int _) (.cons (.int _) .nil))
theorem RDs.map {α : Type} {H : AH} {f : α → V} {g : α → PyData} (h : ∀ x, RD H (f x) (g x)) : ∀ l : List α, RDs H (l.map f) (l.map g)
  | [] => .nil
  | x :: l => .cons (h x) (RDs.map h l)
theorem flat_cons {d : PyData} {ds : List PyData} (h1 : d.canLay0 = true) (h2 : d.depth ≤ 3) (h3 : flat ds = true) : flat (d :: ds) = true := by
  unfold flat at h3 ⊢
  obtain ⟨a, b⟩ := Bool.and_eq_true_iff.mp h3
  have b' := of_decide_eq_true b
  rw [PyData.canLayAll0, PyData.depthAll, h1, a, Bool.true_and, Bool.true_and]
  exact decide_eq_true (Nat.max_le.mpr ⟨h2, b'⟩)
theorem flat_map {α : Type} {g : α → PyData} (h : ∀ x, (g x).canLay0 = true ∧ (g x).depth ≤ 3) : ∀ l : List α, flat (l.map g) = true
  | [] => rfl
  | x :: l => flat_cons (h x).1 (h x).2 (flat_map h l)
theorem flat_shaped_list {ds : List PyData} (h : flat ds = true) : SeqAt.shaped (.list ds) = true := by
  unfold flat at h
  obtain ⟨a, b⟩ := Bool.and_eq_true_iff.mp h
  have b' := of_decide_eq_true b
  unfold SeqAt.shaped
  rw [PyData.canLay0, PyData.depth, a, Bool.true_and]
  exact decide_eq_true (by omega)
theorem flat_shaped_tuple {ds : List PyData} (h : flat ds = true) : SeqAt.shaped (.tuple ds) = true := by
  unfold flat at h
  obtain ⟨a, b⟩ := Bool.and_eq_true_iff.mp h
  have b' := of_decide_eq_true b
  unfold SeqAt.shaped
  rw [PyData.canLay0, PyData.depth, a, Bool.true_and]
  exact decide_eq_true (by omega)
theorem depthAll_map {α : Type} {g : α → PyData} {k : Nat} (h : ∀ x, (g x).depth ≤ k) : ∀ l : List α, PyData.depthAll (l.map g) ≤ k
  | [] => by show PyData.depthAll [] ≤ k; rw [PyData.depthAll]; omega
  | x :: l => by rw [List.map_cons, PyData.depthAll]; exact Nat.max_le.mpr ⟨h x, depthAll_map h l⟩
theorem canLay_map {α : Type} {g : α → PyData} (h : ∀ x, (g x).canLay0 = true) : ∀ l : List α, PyData.canLayAll0 (l.map g) = true
  | [] => rfl
  | x :: l => by rw [List.map_cons, PyData.canLayAll0, h x, canLay_map h l]; rfl
theorem qd_ok (x : Rat) : (qd x).canLay0 = true ∧ (qd x).depth ≤ 1 := ⟨rfl, Nat.le_refl 1⟩
def rowD (row : List Rat) : PyData := .list (row.map qd)
theorem rowD_ok (row : List Rat) : (rowD row).canLay0 = true ∧ (rowD row).depth ≤ 2 := by
  unfold rowD
  rw [PyData.canLay0, PyData.depth]
  have := depthAll_map (g := qd) (k := 1) (fun x => (qd_ok x).2) row
  exact ⟨canLay_map (fun x => (qd_ok x).1) row, by omega⟩
def matD (M : List (List Rat)) : PyData := .list (M.map rowD)
theorem matD_ok (M : List (List Rat)) : (matD M).canLay0 = true ∧ (matD M).depth ≤ 3 := by
  unfold matD
  rw [PyData.canLay0, PyData.depth]
  have := depthAll_map (g := rowD) (k := 2) (fun x => (rowD_ok x).2) M
  exact ⟨canLay_map (fun x => (rowD_ok x).1) M, by omega⟩
def ivD (cs : List Nat) : PyData := .list (cs.map fun c : Nat => .int c)
theorem ivD_ok (cs : List Nat) : (ivD cs).canLay0 = true ∧ (ivD cs).depth ≤ 1 := by
  unfold ivD
  rw [PyData.canLay0, PyData.depth]
  have := depthAll_map (g := fun c : Nat => PyData.int c) (k := 0) (fun x => Nat.le_refl _) cs
  exact ⟨canLay_map (g := fun c : Nat => PyData.int c) (fun x => rfl) cs, by omega⟩
theorem shaped_of {d : PyData} {k : Nat} (h : d.canLay0 = true ∧ d.depth ≤ k) (hk : k ≤ 64 := by decide) : SeqAt.shaped d = true := by
  unfold SeqAt.shaped
  rw [h.1, Bool.true_and]
  exact decide_eq_true (by omega)
theorem pairD_ok (M : List (List Rat)) (cs : List Nat) : (PyData.tuple [matD M, ivD cs]).canLay0 = true ∧ (PyData.tuple [matD M, ivD cs]).depth ≤ 4 := by
  have h1 := matD_ok M
  have h2 := ivD_ok cs
  rw [PyData.canLay0, PyData.depth, PyData.canLayAll0, PyData.canLayAll0, PyData.canLayAll0, PyData.depthAll, PyData.depthAll, PyData.depthAll, h1.1, h2.1]
  exact ⟨rfl, by omega⟩
theorem RD.row {H : AH} {a : Addr} {row : List Rat} (h : H a = some (row.map qv)) : RD H (.ref a) (rowD row) := .lst h (RDs.map RD.q row)
theorem RD.ivs {H : AH} {a : Addr} {cs : List Nat} (h : H a = some (ivs cs)) : RD H (.ref a) (ivD cs) := by
  refine .lst h ?_
  unfold Mine.ivs
  rw [List.map_map]
  exact RDs.map (fun c => .int _) cs
theorem RDs.rows {H : AH} : ∀ {rs : List Addr} {M : List (List Rat)}, rs.length = M.length → (∀ (i : Nat) (r : Addr), rs[i]? = some r → ∃ row : List Rat, M[i]? = some row ∧ H r = some (row.map qv)) → RDs H (rs.map V.ref) (M.map rowD)
  | [], [], _, _ => .nil
  | [], _ :: _, h, _ => by cases h
  | _ :: _, [], h, _ => by cases h
  | r :: rs, row :: M, h, k => by
    refine .cons ?_ (RDs.rows (by simpa using h) fun i r' e => k (i + 1) r' e)
    obtain ⟨row', h1, h2⟩ := k 0 r rfl
    cases h1
    exact RD.row h2
theorem MatAt.rd {H : AH} {a : Addr} {rs : List Addr} {M : List (List Rat)} (m : MatAt H a rs M) : RD H (.ref a) (matD M) := .lst m.out (RDs.rows m.len m.row)

section
variable {X : X0} {fa : Nat → Addr} {n : Nat} {H : AH} {Φ : V → AH → Prop}
theorem op_eq_same {a b : V} {d : PyData} {k : Nat} (ra : RD H a d) (rb : RD H b d) (hd : d.canLay0 = true ∧ d.depth ≤ k) (hk : k ≤ 64) (h : Φ (.bool true) H) : Op X n (cmp .Eq) [a, b] H Φ := by
  refine op_eq ra rb (shaped_of hd hk) (shaped_of hd hk) ?_
  rw [PySem.SeqAt.eqv_refl _ hd.1]; exact h
theorem op_ne_same {a b : V} {d : PyData} {k : Nat} (ra : RD H a d) (rb : RD H b d) (hd : d.canLay0 = true ∧ d.depth ≤ k) (hk : k ≤ 64) (h : Φ (.bool false) H) : Op X n (cmp .NotEq) [a, b] H Φ := by
  refine op_ne ra rb (shaped_of hd hk) (shaped_of hd hk) ?_
  rw [PySem.SeqAt.eqv_refl _ hd.1]; exact h

/-! ### the columns -/
def ahead (cs : List Nat) (c i : Nat) : List Nat := (List.range i).filter fun k => decide (cs.getD k 0 < c)
def told (R : List (List Rat)) (cs : List Nat) (c : Nat) (line : List Rat) (l : List Nat) : Rat := l.foldl (fun s k => s + ent R k c * line.getD (cs.getD k 0) 0) 0
theorem ahead_succ (cs : List Nat) (c i : Nat) : ahead cs c (i + 1) = ahead cs c i ++ (if cs.getD i 0 < c then [i] else []) := by
  unfold ahead
  rw [List.range_succ, List.filter_append]
  congr 1
  by_cases h : cs.getD i 0 < c
  · rw [if_pos h, List.filter_cons_of_pos (by simpa using h)]; rfl
  · rw [if_neg h, List.filter_cons_of_neg (by simpa using h)]; rfl
theorem ahead_len (cs : List Nat) (c i : Nat) : (ahead cs c i).length ≤ i := by
  have := List.length_filter_le (fun k => decide (cs.getD k 0 < c)) (List.range i)
  rw [List.length_range] at this; exact this
theorem ahead_lt {cs : List Nat} {c i k : Nat} (h : k ∈ ahead cs c i) : k < i ∧ cs.getD k 0 < c := by
  obtain ⟨h1, h2⟩ := List.mem_filter.mp h
  exact ⟨List.mem_range.mp h1, by simpa using h2⟩
theorem told_snoc (R : List (List Rat)) (cs : List Nat) (c : Nat) (line : List Rat) (l : List Nat) (k : Nat) : told R cs c line (l ++ [k]) = told R cs c line l + ent R k c * line.getD (cs.getD k 0) 0 := by
  unfold told; rw [List.foldl_append]; rfl
theorem told_bits {R : List (List Rat)} {cs : List Nat} {c w B K : Nat} {line : List Rat} (hw : Rect R w) (hl : line.length = w) (hR : SmM B R) (hs : ∀ x ∈ line, SmQ K x) (hc : c < w) (hcs : ∀ c ∈ cs, c < w)
    {l : List Nat} (h : ∀ k ∈ l, k < R.length ∧ k < cs.length) : SmQ (1 + l.length * (B + K + 1)) (told R cs c line l) := by
  have key : ∀ (l : List Nat) (b : Nat) (x : Rat), (∀ k ∈ l, k < R.length ∧ k < cs.length) → SmQ b x → SmQ (b + l.length * (B + K + 1)) (l.foldl (fun s k => s + ent R k c * line.getD (cs.getD k 0) 0) x) := by
    intro l
    induction l with
    | nil => intro b x _ hx; exact hx.le (by simp)
    | cons k l ih =>
      intro b x h hx
      have hk := h k (by simp)
      have hlt : cs.getD k 0 < w := hcs _ (by rw [List.getD_eq_getElem?_getD, List.getElem?_eq_getElem hk.2]; exact List.getElem_mem _)
      have b2 : SmQ K (line.getD (cs.getD k 0) 0) := hs _ (by rw [List.getD_eq_getElem?_getD, List.getElem?_eq_getElem (by omega)]; exact List.getElem_mem _)
      refine (ih _ _ (fun k hk => h k (by simp [hk])) (hx.add ((hR.ent hk.1 hw hc).mul b2))).le ?_
      rw [List.length_cons, Nat.add_mul]; omega
  exact key l 1 0 h (SmQ.zero (by decide))
theorem mem_getD {l : List Rat} {i : Nat} (h : i < l.length) : l.getD i 0 ∈ l := by
  rw [List.getD_eq_getElem?_getD, List.getElem?_eq_getElem h]; exact List.getElem_mem _
theorem idx_ints (cs : List Nat) (c : Nat) : (cs.map (fun c : Nat => (c : Int))).idxOf (c : Int) = cs.idxOf c := by
  induction cs with
  | nil => rfl
  | cons d cs ih =>
    rw [List.map_cons, List.idxOf_cons, List.idxOf_cons, ih]
    by_cases z : d = c
    · subst z; simp
    · have h1 : ((d : Int) == (c : Int)) = false := by simp; omega
      have h2 : (d == c) = false := by simpa using z
      rw [h1, h2]
theorem mem_ints {cs : List Nat} {c : Nat} (h : c ∈ cs) : (c : Int) ∈ cs.map (fun c : Nat => (c : Int)) := List.mem_map.mpr ⟨c, h, rfl⟩
theorem has_ints (cs : List Nat) (c : Nat) : (cs.map (fun c : Nat => (c : Int))).contains (c : Int) = decide (c ∈ cs) := by
  by_cases h : c ∈ cs
  · rw [decide_eq_true h, List.contains_iff_mem]; exact mem_ints h
  · rw [decide_eq_false h]
    cases q : (cs.map (fun c : Nat => (c : Int))).contains (c : Int) with
    | false => rfl
    | true =>
      rw [List.contains_iff_mem] at q
      obtain ⟨d, hd, e⟩ := List.mem_map.mp q
      exact (h (by have : d = c := by omega
                   rw [← this]; exact hd)).elim
theorem ivs_at {cs : List Nat} {i : Nat} (h : i < cs.length) {k : Int} (hk : k = i) : (ivs cs)[k.toNat]? = some (.int (cs.getD i 0 : Nat)) := by
  subst hk
  unfold ivs
  rw [Int.toNat_natCast, List.getElem?_map, List.getElem?_map, List.getD_eq_getElem?_getD, List.getElem?_eq_getElem h]; rfl

theorem ivs_atN {cs : List Nat} {i : Nat} (h : i < cs.length) : (ivs cs)[i]? = some (.int (cs.getD i 0 : Nat)) := by
  unfold ivs
  rw [List.getElem?_map, List.getElem?_map, List.getD_eq_getElem?_getD, List.getElem?_eq_getElem h]; rfl

theorem cols_ok (L : Env1 X fa) {a r p : Addr} {rs qs : List Addr} {M R : List (List Rat)} {cs : List Nat} {w B K : Nat} (m : MatAt H a rs M) (q : MatAt H r qs R) (hp : H p = some (ivs cs))
    (hM : Rect M w) (hR : Rect R w) (hl : M.length ≤ 100) (hlR : R.length = M.length) (hwl : w ≤ 100) (hcl : cs.length ≤ R.length) (hcw : ∀ c ∈ cs, c < w) (hsM : SmM K M) (hsR : SmM B R)
    (hb : cs.length * (B + K + 1) + B + K + 1 ≤ 9000)
    (hunit : ∀ c, c < w → c ∈ cs → ∀ i, i < R.length → ent R i c = if i = cs.idxOf c then 1 else 0)
    (hline : ∀ c, c < w → c ∉ cs → ∀ line ∈ M, told R cs c line (ahead cs c cs.length) = line.getD c 0)
    (hzero : ∀ c, c < w → c ∉ cs → ∀ i, i < R.length → i ∉ ahead cs c cs.length → ent R i c = 0)
    (h : ∀ H', Grow H H' → Φ (.bool true) H') :
    Calls X (n + 3) (.ref (fa 29)) [.ref a, .ref r, .ref p, .int (w : Nat)] H Φ := by
  have hR100 : R.length ≤ 100 := hlR ▸ hl
  have hc100 : cs.length ≤ 100 := Nat.le_trans hcl hR100
  refine call4 (a := "lines_of") (b := "rows") (c := "pivots") (d := "width") (L.fn 29) (by intros; rfl) (by decide +kernel) ?_
  refine Sx_cons (St_For (by decide +kernel) (It_upto L (by decide +kernel) ?_))
  repeat walk_at "stp"
  refine ⟨by omega, w, ?_⟩
  refine Lp_inv (fun c ρ' H' => Grow H H' ∧ ρ' "lines_of" = some (.ref a) ∧ ρ' "rows" = some (.ref r) ∧ ρ' "pivots" = some (.ref p)) w ?_ ?_ ?_
  · rintro c ρ' H' hc ⟨g, h1, h2, h3⟩
    refine ⟨_, item_upto hc, fun Ψ kN kR => ?_⟩
    have m' := m.grow g
    have q' := q.grow g
    have hp' := g _ _ hp
    refine Sx_cons (St_If ?_)
    repeat walk_at "stp"
    refine op_in (ns := cs.map (fun c : Nat => (c : Int))) hp' ?_
    rw [has_ints]
    repeat walk_at "stp"
    by_cases hcc : c ∈ cs
    · refine iteP (by simpa using hcc) ?_
      refine Sx_cons (St_Assign (Ev_index ?_))
      repeat walk_at "stp"
      refine ⟨by rw [hp']; rfl, ?_⟩
      repeat walk_at "stp"
      refine ⟨cs.map (fun c : Nat => (c : Int)), _, rfl, hp', by rw [List.length_map]; omega, mem_ints hcc, ?_⟩
      rw [idx_ints]
      repeat walk_at "stp"
      refine Sx_cons (St_If (Tv_Compare ?_))
      refine Ev_ListComp (by decide +kernel) (It_list ?_)
      repeat walk_at "stp"
      refine ⟨r, _, rfl, q'.out, R.length, Cp_map (fun i H₁ acc => H₁ = H' ∧ acc = (List.range i).map fun j => qv (ent R j c)) R.length ?_ ?_ ⟨rfl, rfl⟩⟩
      · rintro i H₁ acc hi ⟨rfl, rfl⟩
        obtain ⟨ra, hra, _, hHr⟩ := q'.getD hi
        refine ⟨.ref ra, by rw [item_lst q'.out, List.getElem?_map, hra]; rfl, fun Ψ' kE => ?_⟩
        repeat walk_at "stp"
        refine op_at hHr (le1000 hc hwl) (qvs_atN (ent_getD hi hR hc)) ?_
        refine kE _ _ ?_
        refine ⟨by rw [List.length_map, List.length_range]; exact Nat.le_trans (Nat.le_of_lt hi) (Nat.le_trans hR100 (by decide)), rfl, ?_⟩
        rw [List.range_succ, List.map_append]; rfl
      · rintro H₁ acc ⟨rfl, rfl⟩
        refine ⟨ok_lst q'.out, by rw [item_lst q'.out]; exact List.getElem?_eq_none (by simp [q'.len]), fun d hd => ?_⟩
        have gd : Grow H₁ (upd H₁ d ((List.range R.length).map fun j => qv (ent R j c))) := Grow.upd hd
        refine Ev_ListComp (by decide +kernel) (It_upto L (by decide +kernel) (Ev_len L (by decide +kernel) ?_))
        repeat walk_at "stp"
        refine call_size (gd _ _ q'.out) (by rw [List.length_map, q'.len]) (by omega) ?_
        repeat walk_at "stp"
        refine ⟨by omega, R.length, ?_⟩
        refine Cp_map (fun i H₂ acc => H₂ = upd H₁ d ((List.range R.length).map fun j => qv (ent R j c)) ∧ acc = (List.range i).map fun j => qv (if j = cs.idxOf c then 1 else 0)) R.length ?_ ?_ ⟨rfl, rfl⟩
        · rintro i H₂ acc hi ⟨rfl, rfl⟩
          refine ⟨_, item_upto hi, fun Ψ' kE => ?_⟩
          repeat walk_at "stp"
          have done : ∀ v, v = qv (if i = cs.idxOf c then 1 else 0) → ((List.range i).map fun j => qv (if j = cs.idxOf c then 1 else 0)).length ≤ sizeLine ∧ upd H₁ d ((List.range R.length).map fun j => qv (ent R j c)) = upd H₁ d ((List.range R.length).map fun j => qv (ent R j c)) ∧
              ((List.range i).map fun j => qv (if j = cs.idxOf c then 1 else 0)) ++ [v] = (List.range (i + 1)).map fun j => qv (if j = cs.idxOf c then 1 else 0) := by
            rintro v rfl
            refine ⟨by rw [List.length_map, List.length_range]; exact Nat.le_trans (Nat.le_of_lt hi) (Nat.le_trans hR100 (by decide)), rfl, ?_⟩
            rw [List.range_succ, List.map_append]; rfl
          by_cases z : i = cs.idxOf c
          · refine iteP (by simp; omega) ?_
            repeat walk_at "stp"
            exact ⟨sz2, kE _ _ (done _ (by rw [if_pos z]; rfl))⟩
          · refine iteN (by simp; omega) ?_
            repeat walk_at "stp"
            exact ⟨sz2, kE _ _ (done _ (by rw [if_neg z]; rfl))⟩
        · rintro H₂ acc ⟨rfl, rfl⟩
          refine ⟨trivial, item_rng_end, fun e he => ?_⟩
          have ge := gd.trans (Grow.upd (vs := (List.range R.length).map fun j => qv (if j = cs.idxOf c then 1 else 0)) he)
          have hed : e ≠ d := fun z => by subst z; rw [upd_same] at he; cases he
          have same : ((List.range R.length).map fun j => qv (ent R j c)) = ((List.range R.length).map fun j => qv (if j = cs.idxOf c then 1 else 0)) :=
            List.map_congr_left fun j hj => by rw [hunit c hc hcc j (List.mem_range.mp hj)]
          refine op_ne_same (d := rowD ((List.range R.length).map fun j => if j = cs.idxOf c then 1 else 0)) (k := 2) (RD.row ?_) (RD.row ?_) (rowD_ok _) (by decide) ?_
          · rw [upd_ne (Ne.symm hed), upd_same, same, List.map_map]; rfl
          · rw [upd_same, List.map_map]; rfl
          repeat walk_at "stp"
          refine Sx_cons (St_Continue ?_)
          refine (kN _ _ ?_).2
          exact ⟨g.trans ge, by walk_at "mv", by walk_at "mv", by walk_at "mv"⟩
    · refine iteN (by simpa using hcc) ?_
      repeat walk_at "stp"
      refine Sx_cons (St_AssignComp (by decide +kernel) (by decide +kernel) (It_upto L (by decide +kernel) (Ev_len L (by decide +kernel) ?_)))
      repeat walk_at "stp"
      refine call_size hp' (by rw [ivs_length]) (by omega) ?_
      repeat walk_at "stp"
      refine ⟨by omega, cs.length, ?_⟩
      refine Cp_inv (fun i H₁ acc => H₁ = H' ∧ acc = ivs (ahead cs c i)) cs.length ?_ ?_ ⟨rfl, rfl⟩
      · rintro i H₁ acc hi ⟨rfl, rfl⟩
        refine ⟨_, item_upto hi, ?_⟩
        show Tv X _ _ _ _ _ _
        repeat walk_at "stp"
        refine op_at hp' (le1000 hi hc100) (ivs_atN hi) ?_
        repeat walk_at "stp"
        have hal := ahead_len cs c i
        by_cases z : cs.getD i 0 < c
        · refine iteP (by simpa using z) ?_
          repeat walk_at "stp"
          refine ⟨small (by rw [ivs_length]; omega), rfl, ?_⟩
          rw [ahead_succ, if_pos z, ivs_snoc]
        · refine iteN (by simpa using z) ?_
          refine ⟨rfl, ?_⟩
          rw [ahead_succ, if_neg z, List.append_nil]
      · rintro H₁ acc ⟨rfl, rfl⟩
        refine ⟨trivial, item_rng_end, fun d hd => ?_⟩
        generalize hah : ahead cs c cs.length = ah
        have hal : ah.length ≤ cs.length := by rw [← hah]; exact ahead_len ..
        have halt : ∀ k ∈ ah, k < R.length ∧ k < cs.length := fun k hk => by
          rw [← hah] at hk
          have := (ahead_lt hk).1
          omega
        have gd : Grow H₁ (upd H₁ d (ivs ah)) := Grow.upd hd
        have hd' : upd H₁ d (ivs ah) d = some (ivs ah) := upd_same
        generalize upd H₁ d (ivs ah) = H₂ at gd hd'
        have m2 := m'.grow gd
        have q2 := q'.grow gd
        have hp2 := gd _ _ hp'
        repeat walk_at "stp"
        refine Sx_cons (St_For (by decide +kernel) (It_list ?_))
        repeat walk_at "stp"
        refine ⟨a, _, rfl, m2.out, M.length, ?_⟩
        refine Lp_inv (fun i ρ'' H'' => H'' = H₂ ∧ ρ'' "lines_of" = some (.ref a) ∧ ρ'' "rows" = some (.ref r) ∧ ρ'' "pivots" = some (.ref p) ∧ ρ'' "ahead" = some (.ref d) ∧ ρ'' "column" = some (.int (c : Nat))) M.length ?_ ?_ ?_
        · rintro i ρ₂ H'' hi ⟨rfl, k1, k2, k3, k4, k5⟩
          obtain ⟨la, hla, _, hHl⟩ := m2.getD hi
          refine ⟨.ref la, by rw [item_lst m2.out, List.getElem?_map, hla]; rfl, fun Ψ' kN' kR' => ?_⟩
          have hmem := List.mem_of_getElem? (getD_row hi)
          have hll : (M.getD i []).length = w := rect_getD hM hi
          refine Sx_cons (St_Assign (Ev_Tuple ?_))
          repeat walk_at "stp"
          refine ⟨sz2, ?_⟩
          repeat walk_at "stp"
          refine Sx_cons (St_For (by decide +kernel) (It_list ?_))
          repeat walk_at "stp"
          refine ⟨d, _, rfl, hd', ah.length, ?_⟩
          refine Lp_inv (fun j ρ'' H₃ => H₃ = H'' ∧ ρ'' "lines_of" = some (.ref a) ∧ ρ'' "rows" = some (.ref r) ∧ ρ'' "pivots" = some (.ref p) ∧ ρ'' "ahead" = some (.ref d) ∧ ρ'' "column" = some (.int (c : Nat)) ∧ ρ'' "line" = some (.ref la) ∧ ρ'' "told" = some (qv (told R cs c (M.getD i []) (ah.take j)))) ah.length ?_ ?_ ?_
          · rintro j ρ₃ H₃ hj ⟨rfl, j1, j2, j3, j4, j5, j6, j7⟩
            have hat := halt ah[j] (List.getElem_mem hj)
            refine ⟨.int (ah[j] : Nat), by
              rw [item_lst hd']; unfold ivs
              rw [List.getElem?_map, List.getElem?_map, List.getElem?_eq_getElem hj]; rfl, fun Ψ'' kN'' kR'' => ?_⟩
            generalize hk : ah[j] = k at hat
            obtain ⟨ra, hra, _, hHr⟩ := q2.getD hat.1
            have hlt : cs.getD k 0 < w := hcw _ (by rw [List.getD_eq_getElem?_getD, List.getElem?_eq_getElem hat.2]; exact List.getElem_mem _)
            refine Sx_cons (St_Assign (Ev_fn L 24 (by decide +kernel) (by decide +kernel) ?_))
            repeat walk_at "stp"
            refine Ev_fn L 25 (by decide +kernel) (by decide +kernel) ?_
            repeat walk_at "stp"
            refine op_at q2.out (le1000 hat.1 hR100) (refs_atN hra) ?_
            repeat walk_at "stp"
            refine op_at hHr (le1000 hc hwl) (qvs_atN (ent_getD hat.1 hR hc)) ?_
            repeat walk_at "stp"
            refine op_at hp2 (le1000 hat.2 hc100) (ivs_atN hat.2) ?_
            repeat walk_at "stp"
            refine op_at hHl (le1000 hlt hwl) (qvs_getDN (i := cs.getD k 0) (by omega)) ?_
            repeat walk_at "stp"
            have b1 := hsR.ent hat.1 hR hc
            have b2 : SmQ K ((M.getD i []).getD (cs.getD k 0) 0) := hsM _ hmem _ (mem_getD (by omega))
            have hmul : (B + K + 1) * (ah.take j).length ≤ (B + K + 1) * cs.length := Nat.mul_le_mul_left _ (by rw [List.length_take]; omega)
            rw [Nat.mul_comm _ (ah.take j).length, Nat.mul_comm _ cs.length] at hmul
            have b0 := told_bits (l := ah.take j) hR hll hsR (hsM _ hmem) hc hcw fun k hk => halt k (List.mem_of_mem_take hk)
            refine by_ok L b1 b2 (by omega) ?_
            repeat walk_at "stp"
            refine plus_ok L b0 (b1.mul b2) (by omega) ?_
            repeat walk_at "stp"
            refine (kN'' _ _ ?_).1
            refine ⟨rfl, by walk_at "mv", by walk_at "mv", by walk_at "mv", by walk_at "mv", by walk_at "mv", by walk_at "mv", ?_⟩
            rw [← List.take_append_getElem hj, told_snoc, hk]
            exact put_same
          · rintro ρ₃ H₃ ⟨rfl, j1, j2, j3, j4, j5, j6, j7⟩
            refine ⟨ok_lst hd', by rw [item_lst hd']; exact List.getElem?_eq_none (by rw [ivs_length]; exact Nat.le_refl _), ?_⟩
            rw [List.take_length, ← hah, hline c hc hcc _ hmem] at j7
            refine Sx_cons (St_If (Tv_Compare ?_))
            repeat walk_at "stp"
            refine op_at hHl (le1000 hc hwl) (qvs_getDN (i := c) (by omega)) ?_
            repeat walk_at "stp"
            refine Op_ne_q ?_
            repeat walk_at "stp"
            refine iteN (by simp) ?_
            repeat walk_at "stp"
            refine (kN' _ _ ?_).1
            exact ⟨rfl, by walk_at "mv", by walk_at "mv", by walk_at "mv", by walk_at "mv", by walk_at "mv"⟩
          · exact ⟨rfl, by walk_at "mv", by walk_at "mv", by walk_at "mv", by walk_at "mv", by walk_at "mv", by walk_at "mv", put_same⟩
        · rintro ρ₂ H'' ⟨rfl, k1, k2, k3, k4, k5⟩
          refine ⟨ok_lst m2.out, by rw [item_lst m2.out]; exact List.getElem?_eq_none (by simp [m2.len]), ?_⟩
          refine Sx_cons (St_For (by decide +kernel) (It_upto L (by decide +kernel) (Ev_len L (by decide +kernel) ?_)))
          repeat walk_at "stp"
          refine call_size q2.out (by rw [List.length_map, q2.len]) (by omega) ?_
          repeat walk_at "stp"
          refine ⟨by omega, R.length, ?_⟩
          refine Lp_inv (fun j ρ'' H₃ => H₃ = H'' ∧ ρ'' "lines_of" = some (.ref a) ∧ ρ'' "rows" = some (.ref r) ∧ ρ'' "pivots" = some (.ref p) ∧ ρ'' "ahead" = some (.ref d) ∧ ρ'' "column" = some (.int (c : Nat))) R.length ?_ ?_ ?_
          · rintro j ρ₃ H₃ hj ⟨rfl, j1, j2, j3, j4, j5⟩
            refine ⟨_, item_upto hj, fun Ψ' kN' kR' => ?_⟩
            refine Sx_cons (St_If ?_)
            repeat walk_at "stp"
            refine op_notin (ns := ah.map (fun c : Nat => (c : Int))) hd' ?_
            rw [has_ints]
            repeat walk_at "stp"
            by_cases z : j ∈ ah
            · refine iteN (by simpa using z) ?_
              repeat walk_at "stp"
              refine (kN' _ _ ?_).1
              exact ⟨rfl, by walk_at "mv", by walk_at "mv", by walk_at "mv", by walk_at "mv", by walk_at "mv"⟩
            · refine iteP (by simpa using z) ?_
              obtain ⟨ra, hra, _, hHr⟩ := q2.getD hj
              repeat walk_at "stp"
              refine op_at q2.out (le1000 hj hR100) (refs_atN hra) ?_
              repeat walk_at "stp"
              refine op_at hHr (le1000 hc hwl) (qvs_atN (ent_getD hj hR hc)) ?_
              repeat walk_at "stp"
              refine ⟨sz2, ?_⟩
              rw [hzero c hc hcc j hj (by rw [hah]; exact z)]
              refine Op_ne_q (y := 0) ?_
              repeat walk_at "stp"
              refine iteN (by simp) ?_
              repeat walk_at "stp"
              refine (kN' _ _ ?_).1
              exact ⟨rfl, by walk_at "mv", by walk_at "mv", by walk_at "mv", by walk_at "mv", by walk_at "mv"⟩
          · rintro ρ₃ H₃ ⟨rfl, j1, j2, j3, j4, j5⟩
            refine ⟨trivial, item_rng_end, ?_⟩
            repeat walk_at "stp"
            refine (kN _ _ ?_).1
            exact ⟨g.trans gd, by walk_at "mv", by walk_at "mv", by walk_at "mv"⟩
          · exact ⟨rfl, by walk_at "mv", by walk_at "mv", by walk_at "mv", by walk_at "mv", by walk_at "mv"⟩
        · exact ⟨rfl, by walk_at "mv", by walk_at "mv", by walk_at "mv", by walk_at "mv", by walk_at "mv"⟩
  · rintro ρ' H' ⟨g, h1, h2, h3⟩
    refine ⟨trivial, item_rng_end, ?_⟩
    repeat walk_at "blk"
    exact h H' g
  · exact ⟨Grow.refl _, by walk_at "mv", by walk_at "mv", by walk_at "mv"⟩
end
/-! plain facts: sums, one step of the echelon form, what holds of the form -/

theorem sumTo_congr {f g : Nat → Rat} : ∀ n, (∀ i, i < n → f i = g i) → sumTo n f = sumTo n g
  | 0, _ => rfl
  | n + 1, h => by rw [sumTo, sumTo, sumTo_congr n fun i hi => h i (by omega), h n (by omega)]
theorem sumTo_zero {f : Nat → Rat} (n : Nat) (h : ∀ i, i < n → f i = 0) : sumTo n f = 0 := by
  induction n with
  | zero => rfl
  | succ n ih => rw [sumTo, ih fun i hi => h i (Nat.lt_succ_of_lt hi), h n (Nat.lt_succ_self n), Rat.zero_add]
theorem sumTo_add (f g : Nat → Rat) : ∀ n, sumTo n (fun i => f i + g i) = sumTo n f + sumTo n g
  | 0 => by rw [sumTo, sumTo, sumTo]; grind
  | n + 1 => by rw [sumTo, sumTo, sumTo, sumTo_add f g n]; grind
theorem sumTo_sub (f g : Nat → Rat) : ∀ n, sumTo n (fun i => f i - g i) = sumTo n f - sumTo n g
  | 0 => by rw [sumTo, sumTo, sumTo]; grind
  | n + 1 => by rw [sumTo, sumTo, sumTo, sumTo_sub f g n]; grind
theorem sumTo_mul (a : Rat) (f : Nat → Rat) : ∀ n, sumTo n (fun i => a * f i) = a * sumTo n f
  | 0 => by rw [sumTo, sumTo]; grind
  | n + 1 => by rw [sumTo, sumTo, sumTo_mul a f n]; grind
theorem sumTo_one {f : Nat → Rat} {k : Nat} (n : Nat) (hk : k < n) (h : ∀ i, i < n → i ≠ k → f i = 0) : sumTo n f = f k := by
  induction n with
  | zero => omega
  | succ n ih =>
    rw [sumTo]
    by_cases z : k = n
    · subst z
      rw [sumTo_zero k fun i hi => h i (by omega) (by omega)]; grind
    · rw [ih (by omega) fun i hi hn => h i (by omega) hn, h n (by omega) (Ne.symm z)]; grind
theorem sumTo_swap (f : Nat → Nat → Rat) (m : Nat) : ∀ n, sumTo n (fun i => sumTo m fun j => f i j) = sumTo m fun j => sumTo n fun i => f i j
  | 0 => by rw [sumTo]; exact (sumTo_zero m fun j _ => rfl).symm
  | n + 1 => by
    rw [sumTo, sumTo_swap f m n, ← sumTo_add]
    exact sumTo_congr m fun j _ => rfl

/-! ### entries -/
theorem ent_set {M : List (List Rat)} {t i d : Nat} {row : List Rat} (h : t < M.length) : ent (M.set t row) i d = if i = t then row.getD d 0 else ent M i d := by
  unfold ent
  by_cases z : i = t
  · subst z
    rw [if_pos rfl, List.getD_eq_getElem?_getD (l := M.set i row), List.getElem?_set_self h]; rfl
  · rw [if_neg z, List.getD_eq_getElem?_getD (l := M.set t row), List.getElem?_set_ne (Ne.symm z), ← List.getD_eq_getElem?_getD]
theorem ent_swap {M : List (List Rat)} {t f i d : Nat} (ht : t < M.length) (hf : f < M.length) : ent (swapM M t f) i d = if i = f then ent M t d else if i = t then ent M f d else ent M i d := by
  unfold swapM
  rw [ent_set (by rw [List.length_set]; exact hf), ent_set ht]
  rfl
theorem getD_map_mul (row : List Rat) (x : Rat) (d : Nat) : (row.map (· * x)).getD d 0 = row.getD d 0 * x := by
  rw [List.getD_eq_getElem?_getD, List.getD_eq_getElem?_getD, List.getElem?_map]
  cases row[d]? with
  | none => show (0 : Rat) = 0 * x; grind
  | some y => rfl
theorem ent_scale {M : List (List Rat)} {t c i d : Nat} (ht : t < M.length) : ent (scaleM M t c) i d = if i = t then ent M t d * (1 / ent M t c) else ent M i d := by
  unfold scaleM
  rw [ent_set ht, getD_map_mul]; rfl
theorem ent_clear {M : List (List Rat)} {w p c i d : Nat} (hw : Rect M w) (hp : p < M.length) (hi : i < M.length) (hd : d < w) : ent (clearM M p c) i d = if i = p then ent M i d else ent M i d - ent M i c * ent M p d := by
  have hr : M[i]? = some (M.getD i []) := by rw [List.getD_eq_getElem?_getD, List.getElem?_eq_getElem hi]; rfl
  unfold clearM
  rw [ent, List.getD_eq_getElem?_getD (l := clearUpto M p c M.length), clearUpto_get, hr]
  show List.getD (if i < M.length ∧ i ≠ p then lessRow (M.getD i []) (M.getD p []) ((M.getD i []).getD c 0) else M.getD i []) d 0 = _
  by_cases z : i = p
  · rw [if_neg (by simp [z]), if_pos z]; rfl
  · rw [if_pos ⟨hi, z⟩, if_neg z]
    have h1 := rect_getD hw hi
    have h2 := rect_getD hw hp
    rw [List.getD_eq_getElem?_getD, lessRow, List.getElem?_zipWith]
    have e1 : (M.getD i [])[d]? = some (ent M i d) := ent_row hr hw hd
    have e2 : (M.getD p [])[d]? = some (ent M p d) := ent_row (by rw [List.getD_eq_getElem?_getD, List.getElem?_eq_getElem hp]; rfl) hw hd
    rw [e1, e2]; rfl

theorem mat_ext {M N : List (List Rat)} {w : Nat} (hM : Rect M w) (hN : Rect N w) (hl : M.length = N.length) (h : ∀ i, i < M.length → ∀ d, d < w → ent M i d = ent N i d) : M = N := by
  refine List.ext_getElem hl fun i h1 h2 => ?_
  have l1 := hM _ (List.getElem_mem h1)
  have l2 := hN _ (List.getElem_mem h2)
  refine List.ext_getElem (by rw [l1, l2]) fun d k1 k2 => ?_
  have e1 := ent_row (List.getElem?_eq_getElem h1) hM (by omega : d < w)
  have e2 := ent_row (List.getElem?_eq_getElem h2) hN (by omega : d < w)
  rw [List.getElem?_eq_getElem k1] at e1
  rw [List.getElem?_eq_getElem k2] at e2
  rw [Option.some.inj e1, Option.some.inj e2, h i h1 d (by omega)]

theorem findF_not {M : List (List Rat)} {s c : Nat} (h : findF M s c = none) : ∀ j, s ≤ j → j < M.length → ent M j c = 0 := by
  intro j h1 h2
  unfold findF at h
  rw [List.find?_range_eq_none] at h
  have := h j h2
  simpa [h1] using this

/-- one step, entry by entry -/
theorem step_ent {N : List (List Rat)} {p : List Nat} {w c f : Nat} (hw : Rect N w) (hc : c < w) (hf : findF N p.length c = some f) {i d : Nat} (hi : i < N.length) (hd : d < w) :
    ent (stepE c (N, p)).1 i d = if i = p.length then ent N f d * (1 / ent N f c) else ent N (if i = f then p.length else i) d - ent N (if i = f then p.length else i) c * (ent N f d * (1 / ent N f c)) := by
  obtain ⟨f1, f2, f3⟩ := findF_spec hf
  have ht : p.length < N.length := by omega
  have e : (stepE c (N, p)).1 = clearM (scaleM (swapM N p.length f) p.length c) p.length c := by
    unfold stepE; dsimp only; rw [hf]
  have hw1 := rect_swap hw ht f2
  have hl1 := swapM_length N p.length f
  have hw2 : Rect (scaleM (swapM N p.length f) p.length c) w := rect_scale hw1 (by omega)
  have hl2 := scaleM_length (swapM N p.length f) p.length c
  rw [e, ent_clear hw2 (by omega) (by omega) hd]
  have a1 : ∀ d, ent (swapM N p.length f) p.length d = ent N f d := fun d => by
    rw [ent_swap ht f2]
    by_cases z : p.length = f
    · rw [if_pos z, z]
    · rw [if_neg z, if_pos rfl]
  have a2 : ∀ d, ent (scaleM (swapM N p.length f) p.length c) p.length d = ent N f d * (1 / ent N f c) := fun d => by
    rw [ent_scale (by omega), if_pos rfl, a1, a1]
  by_cases z : i = p.length
  · rw [if_pos z, if_pos z, z, a2]
  · have a3 : ∀ d, ent (scaleM (swapM N p.length f) p.length c) i d = ent N (if i = f then p.length else i) d := fun d => by
      rw [ent_scale (by omega), if_neg z, ent_swap ht f2]
      by_cases y : i = f
      · rw [if_pos y, if_pos y]
      · rw [if_neg y, if_neg z, if_neg y]
    rw [if_neg z, if_neg z, a2, a3, a3]
theorem step_piv {N : List (List Rat)} {p : List Nat} {c f : Nat} (hf : findF N p.length c = some f) : (stepE c (N, p)).2 = p ++ [c] := by
  unfold stepE; dsimp only; rw [hf]
theorem step_len (c : Nat) (st : ESt) : (stepE c st).1.length = st.1.length := by
  unfold stepE
  split
  · rfl
  · rw [clearM_length, scaleM_length, swapM_length]

/-- an echelon form as far as column c -/
structure Ech (N : List (List Rat)) (p : List Nat) (c : Nat) : Prop where
  short : p.length ≤ N.length
  lt : ∀ k, k < p.length → p.getD k 0 < c
  up : ∀ j k, j < k → k < p.length → p.getD j 0 < p.getD k 0
  unit : ∀ k, k < p.length → ∀ i, i < N.length → ent N i (p.getD k 0) = if i = k then 1 else 0
  rest : ∀ i, p.length ≤ i → i < N.length → ∀ d, d < c → ent N i d = 0
  lead : ∀ k, k < p.length → ∀ d, d < p.getD k 0 → ent N k d = 0

theorem getD_snoc_lt {p : List Nat} {c k : Nat} (h : k < p.length) : (p ++ [c]).getD k 0 = p.getD k 0 := by
  rw [List.getD_eq_getElem?_getD, List.getElem?_append_left h, ← List.getD_eq_getElem?_getD]
theorem getD_snoc_eq {p : List Nat} {c : Nat} : (p ++ [c]).getD p.length 0 = c := by
  rw [List.getD_eq_getElem?_getD, List.getElem?_append_right (Nat.le_refl _), Nat.sub_self]; rfl

theorem mul_inv' {e : Rat} (h : e ≠ 0) : e * (1 / e) = 1 := by grind
theorem sub_all (x : Rat) {e : Rat} (h : e ≠ 0) : x - x * (e * (1 / e)) = 0 := by rw [mul_inv' h]; grind
theorem sub_none (x y z : Rat) : x - y * (0 * z) = x := by rw [Rat.zero_mul, Rat.mul_zero]; grind
theorem Ech.step {N : List (List Rat)} {p : List Nat} {c w : Nat} (h : Ech N p c) (hw : Rect N w) (hc : c < w) : Ech (stepE c (N, p)).1 (stepE c (N, p)).2 (c + 1) := by
  cases hf : findF N p.length c with
  | none =>
    have e : stepE c (N, p) = (N, p) := by unfold stepE; dsimp only; rw [hf]
    rw [e]
    refine ⟨h.short, fun k hk => Nat.lt_succ_of_lt (h.lt k hk), h.up, h.unit, fun i h1 h2 d hd => ?_, h.lead⟩
    by_cases z : d = c
    · subst z; exact findF_not hf i h1 h2
    · exact h.rest i h1 h2 d (by omega)
  | some f =>
    obtain ⟨f1, f2, f3⟩ := findF_spec hf
    have se := fun i d hi hd => step_ent (i := i) (d := d) hw hc hf hi hd
    have sl := step_len c (N, p)
    have sp := step_piv hf
    dsimp only at sl
    rw [sp]
    generalize (stepE c (N, p)).1 = N' at se sl
    have hlen : (p ++ [c]).length = p.length + 1 := List.length_append
    have ht : p.length < N.length := Nat.lt_of_le_of_lt f1 f2
    have old : ∀ {k}, k < (p ++ [c]).length → k ≠ p.length → k < p.length := fun h n => by
      rw [hlen] at h; exact Nat.lt_of_le_of_ne (Nat.le_of_lt_succ h) n
    have low : ∀ {d}, d < c + 1 → d ≠ c → d < c := fun h n => Nat.lt_of_le_of_ne (Nat.le_of_lt_succ h) n
    have fz : ∀ d, d < c → ent N f d = 0 := fun d hd => h.rest f f1 f2 d hd
    have kf : ∀ {k}, k < p.length → k ≠ f := fun hk e => Nat.lt_irrefl _ (Nat.lt_of_lt_of_le (e ▸ hk) f1)
    refine ⟨by rw [hlen, sl]; exact ht, fun k hk => ?_, fun j k hj hk => ?_, fun k hk i hi => ?_, fun i h1 h2 d hd => ?_, fun k hk d hd => ?_⟩
    · by_cases z : k = p.length
      · subst z; rw [getD_snoc_eq]; exact Nat.lt_succ_self c
      · rw [getD_snoc_lt (old hk z)]; exact Nat.lt_succ_of_lt (h.lt k (old hk z))
    · by_cases z : k = p.length
      · subst z; rw [getD_snoc_eq, getD_snoc_lt hj]; exact h.lt j hj
      · have hkl := old hk z
        rw [getD_snoc_lt (Nat.lt_trans hj hkl), getD_snoc_lt hkl]; exact h.up j k hj hkl
    · rw [sl] at hi
      by_cases z : k = p.length
      · subst z
        rw [getD_snoc_eq, se i c hi hc]
        by_cases y : i = p.length
        · rw [if_pos y, if_pos y]; exact mul_inv' f3
        · rw [if_neg y, if_neg y]; exact sub_all _ f3
      · have hkl := old hk z
        have hlt := h.lt k hkl
        rw [getD_snoc_lt hkl, se i _ hi (Nat.lt_trans hlt hc), fz _ hlt]
        by_cases y : i = p.length
        · rw [if_pos y, if_neg (fun e => z (e.symm.trans y))]; exact Rat.zero_mul _
        · rw [if_neg y]
          by_cases x : i = f
          · rw [if_pos x, h.unit k hkl _ ht, if_neg (Ne.symm z), if_neg (fun e => kf hkl (e.symm.trans x))]; exact sub_none _ _ _
          · rw [if_neg x, h.unit k hkl _ hi]; exact sub_none _ _ _
    · rw [hlen] at h1
      rw [sl] at h2
      have hip : p.length < i := h1
      have hdw : d < w := Nat.lt_of_lt_of_le hd hc
      rw [se i d h2 hdw, if_neg (Ne.symm (Nat.ne_of_lt hip))]
      by_cases z : d = c
      · subst z; exact sub_all _ f3
      · have hz : ent N (if i = f then p.length else i) d = 0 := by
          split
          · exact h.rest _ (Nat.le_refl _) ht d (low hd z)
          · exact h.rest _ (Nat.le_of_lt hip) h2 d (low hd z)
        rw [fz d (low hd z), hz]; exact sub_none _ _ _
    · by_cases z : k = p.length
      · subst z
        rw [getD_snoc_eq] at hd
        rw [se _ d ht (Nat.lt_trans hd hc), if_pos rfl, fz d hd]; exact Rat.zero_mul _
      · have hkl := old hk z
        have hlt := h.lt k hkl
        rw [getD_snoc_lt hkl] at hd
        have hdc := Nat.lt_trans hd hlt
        rw [se k d (Nat.lt_trans hkl ht) (Nat.lt_trans hdc hc), if_neg z, if_neg (kf hkl), fz d hdc, h.lead k hkl d hd]; exact sub_none _ _ _

theorem ech_upto {M : List (List Rat)} {w : Nat} (hw : Rect M w) : ∀ c, c ≤ w → Ech (echUpto M c).1 (echUpto M c).2 c
  | 0, _ => ⟨Nat.zero_le _, fun k hk => by simp [echUpto] at hk, fun j k _ hk => by simp [echUpto] at hk, fun k hk => by simp [echUpto] at hk, fun i _ _ d hd => by omega, fun k hk => by simp [echUpto] at hk⟩
  | c + 1, h => (ech_upto hw c (by omega)).step (echUpto_ok hw c).1 (by omega)

/-! ### what kills every row -/
def kills (φ : Nat → Rat) (w : Nat) (M : List (List Rat)) : Prop := ∀ i, i < M.length → sumTo w (fun d => φ d * ent M i d) = 0

theorem kills_step {N : List (List Rat)} {p : List Nat} {w c : Nat} (hw : Rect N w) (hc : c < w) (φ : Nat → Rat) : kills φ w (stepE c (N, p)).1 ↔ kills φ w N := by
  cases hf : findF N p.length c with
  | none =>
    have e : stepE c (N, p) = (N, p) := by unfold stepE; dsimp only; rw [hf]
    rw [e]
  | some f =>
    obtain ⟨f1, f2, f3⟩ := findF_spec hf
    have se := fun i d hi hd => step_ent (i := i) (d := d) hw hc hf hi hd
    have sl := step_len c (N, p)
    dsimp only at sl
    generalize (stepE c (N, p)).1 = N' at se sl
    have s1 : ∀ i, i < N.length → sumTo w (fun d => φ d * ent N' i d) = if i = p.length then (1 / ent N f c) * sumTo w (fun d => φ d * ent N f d) else
        sumTo w (fun d => φ d * ent N (if i = f then p.length else i) d) - (ent N (if i = f then p.length else i) c * (1 / ent N f c)) * sumTo w (fun d => φ d * ent N f d) := by
      intro i hi
      by_cases z : i = p.length
      · rw [if_pos z, ← sumTo_mul]
        refine sumTo_congr w fun d hd => ?_
        rw [se i d hi hd, if_pos z]; grind
      · rw [if_neg z, ← sumTo_mul, ← sumTo_sub]
        refine sumTo_congr w fun d hd => ?_
        rw [se i d hi hd, if_neg z]; grind
    unfold kills
    rw [sl]
    constructor
    · intro h i hi
      have ht : p.length < N.length := by omega
      have hF : sumTo w (fun d => φ d * ent N f d) = 0 := by
        have := h p.length ht
        rw [s1 _ ht, if_pos rfl] at this
        grind
      by_cases z : i = f
      · rw [z]; exact hF
      · by_cases y : i = p.length
        · have := h f f2
          rw [s1 _ f2, if_neg (by omega), if_pos rfl, hF] at this
          rw [y]; grind
        · have := h i hi
          rw [s1 _ hi, if_neg y, if_neg z, hF] at this
          grind
    · intro h i hi
      rw [s1 i hi, h f f2, h (if i = f then p.length else i) (by split <;> omega)]
      split <;> grind
theorem kills_upto {M : List (List Rat)} {w : Nat} (hw : Rect M w) (φ : Nat → Rat) : ∀ c, c ≤ w → (kills φ w (echUpto M c).1 ↔ kills φ w M)
  | 0, _ => Iff.rfl
  | c + 1, h => (kills_step (echUpto_ok hw c).1 (by omega) φ).trans (kills_upto hw φ c (by omega))

/-- what is one at place d and pays it back by the pivots -/
noncomputable def test (R : List (List Rat)) (cs : List Nat) (d : Nat) : Nat → Rat := fun e => (if e = d then 1 else 0) - sumTo cs.length fun k => ent R k d * (if e = cs.getD k 0 then 1 else 0)
theorem test_sum {R : List (List Rat)} {cs : List Nat} {d w : Nat} (hd : d < w) (hcs : ∀ k, k < cs.length → cs.getD k 0 < w) (v : Nat → Rat) :
    sumTo w (fun e => test R cs d e * v e) = v d - sumTo cs.length fun k => v (cs.getD k 0) * ent R k d := by
  have h1 : sumTo w (fun e => test R cs d e * v e) = sumTo w (fun e => (if e = d then 1 else 0) * v e - sumTo cs.length fun k => ent R k d * (if e = cs.getD k 0 then 1 else 0) * v e) := by
    refine sumTo_congr w fun e _ => ?_
    have : sumTo cs.length (fun k => ent R k d * (if e = cs.getD k 0 then 1 else 0) * v e) = sumTo cs.length (fun k => v e * (ent R k d * (if e = cs.getD k 0 then 1 else 0))) := sumTo_congr _ fun k _ => by grind
    rw [this, sumTo_mul]
    unfold test
    grind
  rw [h1, sumTo_sub, sumTo_swap]
  congr 1
  · rw [sumTo_one w hd fun i hi hn => by rw [if_neg hn]; grind]
    rw [if_pos rfl]; grind
  · refine sumTo_congr _ fun k hk => ?_
    rw [sumTo_one w (hcs k hk) fun i hi hn => by rw [if_neg hn]; grind]
    rw [if_pos rfl]; grind

theorem test_kills {R : List (List Rat)} {cs : List Nat} {d w : Nat} (h : Ech R cs w) (hd : d < w) : kills (test R cs d) w R := by
  intro i hi
  rw [test_sum hd h.lt]
  by_cases z : i < cs.length
  · rw [sumTo_one cs.length z fun k hk hn => by rw [h.unit k hk i hi, if_neg (Ne.symm hn)]; grind]
    rw [h.unit i z i hi, if_pos rfl]; grind
  · rw [sumTo_zero cs.length fun k hk => by rw [h.unit k hk i hi, if_neg (by omega)]; grind]
    rw [h.rest i (by omega) hi d hd]; grind

/-- each row that the form's tests kill is the sum of the echelon rows by its pivot items -/
theorem row_sum {R M : List (List Rat)} {cs : List Nat} {w : Nat} (h : Ech R cs w) (hk : ∀ φ, kills φ w R → kills φ w M) {i d : Nat} (hi : i < M.length) (hd : d < w) :
    ent M i d = sumTo cs.length fun k => ent M i (cs.getD k 0) * ent R k d := by
  have := hk _ (test_kills h hd) i hi
  rw [test_sum hd h.lt] at this
  grind
/-! plain facts: the form is told by the rows' span; some square is not nought; bits -/

theorem up_pairwise : ∀ {cs : List Nat}, (∀ j k, j < k → k < cs.length → cs.getD j 0 < cs.getD k 0) → cs.Pairwise (· < ·)
  | [], _ => .nil
  | a :: cs, h => by
    refine .cons (fun b hb => ?_) (up_pairwise fun j k hj hk => ?_)
    · obtain ⟨k, hk⟩ := List.getElem?_of_mem hb
      have hlt := (List.getElem?_eq_some_iff.mp hk).1
      have := h 0 (k + 1) (by omega) (by simp; omega)
      rw [List.getD_eq_getElem?_getD, List.getD_eq_getElem?_getD, List.getElem?_cons_succ, hk] at this
      exact this
    · have := h (j + 1) (k + 1) (by omega) (by simp; omega)
      simpa [List.getD_eq_getElem?_getD] using this

theorem same_of_mem : ∀ {as bs : List Nat}, as.Pairwise (· < ·) → bs.Pairwise (· < ·) → (∀ x, x ∈ as ↔ x ∈ bs) → as = bs
  | [], [], _, _, _ => rfl
  | [], b :: bs, _, _, h => by have := (h b).mpr (by simp); cases this
  | a :: as, [], _, _, h => by have := (h a).mp (by simp); cases this
  | a :: as, b :: bs, .cons ha pa, .cons hb pb, h => by
    have hab : a = b := by
      have h1 : a ∈ b :: bs := (h a).mp (by simp)
      have h2 : b ∈ a :: as := (h b).mpr (by simp)
      rcases List.mem_cons.mp h1 with e | e
      · exact e
      · rcases List.mem_cons.mp h2 with e' | e'
        · exact e'.symm
        · have := hb _ e; have := ha _ e'; omega
    subst hab
    rw [same_of_mem pa pb fun x => ?_]
    constructor
    · intro hx
      have := ha _ hx
      rcases List.mem_cons.mp ((h x).mp (List.mem_cons_of_mem _ hx)) with e | e
      · omega
      · exact e
    · intro hx
      have := hb _ hx
      rcases List.mem_cons.mp ((h x).mpr (List.mem_cons_of_mem _ hx)) with e | e
      · omega
      · exact e

theorem mem_getD' {cs : List Nat} {x : Nat} : x ∈ cs ↔ ∃ k, k < cs.length ∧ cs.getD k 0 = x := by
  constructor
  · intro h
    obtain ⟨k, hk⟩ := List.getElem?_of_mem h
    refine ⟨k, (List.getElem?_eq_some_iff.mp hk).1, ?_⟩
    rw [List.getD_eq_getElem?_getD, hk]; rfl
  · rintro ⟨k, hk, rfl⟩
    rw [List.getD_eq_getElem?_getD, List.getElem?_eq_getElem hk]; exact List.getElem_mem _

/-- a row's leading place is a pivot of each form that spans it -/
theorem lead_mem {R M : List (List Rat)} {cs : List Nat} {w : Nat} (h : Ech R cs w) (hk : ∀ φ, kills φ w R → kills φ w M) {i c : Nat} (hi : i < M.length) (hc : c < w)
    (h0 : ∀ d, d < c → ent M i d = 0) (h1 : ent M i c ≠ 0) : c ∈ cs := by
  by_cases z : c ∈ cs
  · exact z
  · refine (h1 ?_).elim
    rw [row_sum h hk hi hc]
    refine sumTo_zero _ fun k hk' => ?_
    have hne : cs.getD k 0 ≠ c := fun e => z (mem_getD'.mpr ⟨k, hk', e⟩)
    by_cases y : cs.getD k 0 < c
    · rw [h0 _ y]; grind
    · rw [h.lead k hk' c (by omega)]; grind

theorem ech_unique {R S : List (List Rat)} {cs ds : List Nat} {w : Nat} (h : Ech R cs w) (g : Ech S ds w) (hR : Rect R w) (hS : Rect S w) (hl : R.length = S.length)
    (h1 : ∀ φ, kills φ w R ↔ kills φ w S) : R = S ∧ cs = ds := by
  have sub : ∀ {R S : List (List Rat)} {cs ds : List Nat}, Ech R cs w → Ech S ds w → (∀ φ, kills φ w R ↔ kills φ w S) → ∀ x, x ∈ ds → x ∈ cs := by
    intro R S cs ds h g h1 x hx
    obtain ⟨k, hk, rfl⟩ := mem_getD'.mp hx
    have hs := g.short
    refine lead_mem h (fun φ => (h1 φ).mp) (i := k) (by omega) (g.lt k hk) (g.lead k hk) ?_
    rw [g.unit k hk k (by omega), if_pos rfl]; grind
  have hcs : cs = ds := same_of_mem (up_pairwise h.up) (up_pairwise g.up) fun x => ⟨sub g h (fun φ => (h1 φ).symm) x, sub h g h1 x⟩
  subst hcs
  refine ⟨(mat_ext hS hR hl.symm fun i hi d hd => ?_).symm, rfl⟩
  rw [row_sum h (fun φ => (h1 φ).mp) hi hd]
  by_cases z : i < cs.length
  · rw [sumTo_one cs.length z fun k hk hn => by rw [g.unit k hk i hi, if_neg (Ne.symm hn)]; grind]
    rw [g.unit i z i hi, if_pos rfl]; grind
  · rw [sumTo_zero cs.length fun k hk => by rw [g.unit k hk i hi, if_neg (by omega)]; grind]
    rw [h.rest i (by omega) (by omega) d hd]

theorem ent_reverse {M : List (List Rat)} {i d : Nat} (h : i < M.length) : ent M.reverse i d = ent M (M.length - 1 - i) d := by
  unfold ent
  rw [List.getD_eq_getElem?_getD (l := M.reverse), List.getElem?_reverse h, ← List.getD_eq_getElem?_getD]
theorem kills_reverse {M : List (List Rat)} {w : Nat} (φ : Nat → Rat) : kills φ w M.reverse ↔ kills φ w M := by
  have one : ∀ M : List (List Rat), kills φ w M → kills φ w M.reverse := by
    intro M h i hi
    rw [List.length_reverse] at hi
    rw [sumTo_congr w fun d _ => by rw [ent_reverse hi]]
    exact h _ (by omega)
  exact ⟨fun h => by have := one _ h; rwa [List.reverse_reverse] at this, one M⟩
theorem rect_reverse {M : List (List Rat)} {w : Nat} (h : Rect M w) : Rect M.reverse w := fun row hr => h row (List.mem_reverse.mp hr)

theorem ech_reverse {M : List (List Rat)} {w : Nat} (h : Rect M w) : echUpto M.reverse w = echUpto M w := by
  have h' := rect_reverse h
  have a := echUpto_ok h w
  have b := echUpto_ok h' w
  obtain ⟨e1, e2⟩ := ech_unique (ech_upto h' w (Nat.le_refl _)) (ech_upto h w (Nat.le_refl _)) b.1 a.1 (by rw [b.2.1, a.2.1, List.length_reverse]) fun φ =>
    (kills_upto h' φ w (Nat.le_refl _)).trans ((kills_reverse φ).trans (kills_upto h φ w (Nat.le_refl _)).symm)
  exact Prod.ext e1 e2

theorem mul_one_one (x : Rat) : x * (1 / 1) = x := by grind
theorem sub_zero_mul (x y : Rat) : x - 0 * y = x := by grind
/-- the form of a form -/
theorem ech_fix {R : List (List Rat)} {cs : List Nat} {w : Nat} (h : Ech R cs w) (hR : Rect R w) : ∀ c, c ≤ w → ∃ t, t ≤ cs.length ∧ echUpto R c = (R, cs.take t) ∧ (∀ k, k < t → cs.getD k 0 < c) ∧ ∀ k, t ≤ k → k < cs.length → c ≤ cs.getD k 0
  | 0, _ => ⟨0, Nat.zero_le _, rfl, fun k hk => by omega, fun k _ _ => Nat.zero_le _⟩
  | c + 1, hc => by
    obtain ⟨t, ht, e, h1, h2⟩ := ech_fix h hR c (Nat.le_of_succ_le hc)
    have hs := h.short
    rw [echUpto, e]
    have hlen : (cs.take t).length = t := by rw [List.length_take]; exact Nat.min_eq_left ht
    -- behind t the pivots stand behind c, but c itself
    have far : ∀ k, t ≤ k → k < cs.length → cs.getD k 0 ≠ c → c < cs.getD k 0 := fun k h3 h4 n => Nat.lt_of_le_of_ne (h2 k h3 h4) (Ne.symm n)
    by_cases z : t < cs.length ∧ cs.getD t 0 = c
    · obtain ⟨z1, z2⟩ := z
      have htR : t < R.length := Nat.lt_of_lt_of_le z1 hs
      have e1 : ∀ i, i < R.length → ent R i c = if i = t then 1 else 0 := fun i hi => by rw [← z2]; exact h.unit t z1 i hi
      have hf : findF R (cs.take t).length c = some t := by
        rw [hlen]
        refine findF_some (Nat.le_refl _) htR (fun j h3 h4 => absurd h4 (Nat.not_lt.mpr h3)) ?_
        rw [e1 t htR, if_pos rfl]; decide
      have hw' := (stepE_ok (c := c) (st := (R, cs.take t)) hR (by rw [hlen]; exact Nat.le_of_lt htR))
      refine ⟨t + 1, z1, Prod.ext (mat_ext hw'.1 hR hw'.2.1 fun i hi d hd => ?_) ?_, fun k hk => ?_, fun k hk1 hk2 => ?_⟩
      · have hi' : i < R.length := by rw [← hw'.2.1]; exact hi
        rw [step_ent hR (Nat.lt_of_succ_le hc) hf hi' hd, hlen, e1 t htR, if_pos rfl]
        by_cases y : i = t
        · rw [if_pos y, y]; exact mul_one_one _
        · rw [if_neg y, if_neg y, e1 i hi', if_neg y]; exact sub_zero_mul _ _
      · rw [step_piv hf, ← List.take_append_getElem z1]
        congr 2
        rw [← z2, List.getD_eq_getElem?_getD, List.getElem?_eq_getElem z1]; rfl
      · by_cases y : k = t
        · rw [y, z2]; exact Nat.lt_succ_self c
        · exact Nat.lt_succ_of_lt (h1 k (Nat.lt_of_le_of_ne (Nat.le_of_lt_succ hk) y))
      · have := h.up t k hk1 hk2
        rw [z2] at this; exact this
    · have hc' : ∀ k, t ≤ k → k < cs.length → c < cs.getD k 0 := fun k h3 h4 => by
        rcases Nat.lt_or_eq_of_le h3 with x | x
        · exact Nat.lt_of_le_of_lt (h2 t (Nat.le_refl _) (Nat.lt_trans x h4)) (h.up t k x h4)
        · subst x; exact far _ h3 h4 fun e => z ⟨h4, e⟩
      have hf : findF R (cs.take t).length c = none := by
        rw [hlen]
        refine findF_none fun j j1 j2 => ?_
        by_cases y : j < cs.length
        · exact h.lead j y c (hc' j j1 y)
        · exact h.rest j (Nat.le_of_not_lt y) j2 c (Nat.lt_of_succ_le hc)
      refine ⟨t, ht, ?_, fun k hk => Nat.lt_succ_of_lt (h1 k hk), fun k hk1 hk2 => hc' k hk1 hk2⟩
      unfold stepE; dsimp only; rw [hf]
theorem ech_fix_all {R : List (List Rat)} {cs : List Nat} {w : Nat} (h : Ech R cs w) (hR : Rect R w) : echUpto R w = (R, cs) := by
  obtain ⟨t, ht, e, h1, h2⟩ := ech_fix h hR w (Nat.le_refl _)
  have : t = cs.length := by
    by_cases z : t = cs.length
    · exact z
    · have := h2 t (Nat.le_refl _) (by omega)
      have := h.lt t (by omega)
      omega
  rw [e, this, List.take_length]
theorem ech_fix_rows {R : List (List Rat)} {cs : List Nat} {w c : Nat} (h : Ech R cs w) (hR : Rect R w) (hc : c ≤ w) : (echUpto R c).1 = R := by
  obtain ⟨t, _, e, _⟩ := ech_fix h hR c hc
  rw [e]

/-! ### bits -/
noncomputable def stepBits : Nat → Nat → Nat
  | K, 0 => K
  | K, k + 1 => 4 * stepBits K k + 2
theorem smM_of_ent {M : List (List Rat)} {w k : Nat} (hw : Rect M w) (h : ∀ i, i < M.length → ∀ d, d < w → SmQ k (ent M i d)) : SmM k M := fun row hr x hx => by
  obtain ⟨i, hi⟩ := List.getElem?_of_mem hr
  obtain ⟨d, hd⟩ := List.getElem?_of_mem hx
  have h1 := (List.getElem?_eq_some_iff.mp hi).1
  have h2 := (List.getElem?_eq_some_iff.mp hd).1
  have h3 := hw row hr
  have := ent_row hi hw (by omega : d < w)
  rw [hd] at this
  rw [Option.some.inj this]
  exact h i h1 d (by omega)
theorem step_bits {N : List (List Rat)} {p : List Nat} {w c k : Nat} (hw : Rect N w) (hc : c < w) (hp : p.length ≤ N.length) (hk : 1 ≤ k) (hs : SmM k N) :
    (stepE c (N, p) = (N, p)) ∨ (SmM (4 * k + 2) (stepE c (N, p)).1 ∧ (stepE c (N, p)).2.length = p.length + 1) := by
  cases hf : findF N p.length c with
  | none => exact .inl (by unfold stepE; dsimp only; rw [hf])
  | some f =>
    refine .inr ⟨?_, by rw [step_piv hf]; simp⟩
    obtain ⟨f1, f2, f3⟩ := findF_spec hf
    have hw' := (stepE_ok (c := c) (st := (N, p)) hw hp)
    refine smM_of_ent hw'.1 fun i hi d hd => ?_
    have hi' : i < N.length := by rw [← hw'.2.1]; exact hi
    rw [step_ent hw hc hf hi' hd]
    have q : SmQ (k + (1 + k)) (ent N f d * (1 / ent N f c)) := (hs.ent f2 hw hd).mul (SmQ.div f3 (SmQ.one (by decide)) (hs.ent f2 hw hc))
    split
    · exact q.le (by omega)
    · have hj : (if i = f then p.length else i) < N.length := by split <;> omega
      have := (hs.ent hj hw hd).add ((hs.ent hj hw hc).mul q).neg
      rw [← Rat.sub_eq_add_neg] at this
      exact this.le (by omega)
theorem stepBits_le (K : Nat) : ∀ {j k : Nat}, j ≤ k → stepBits K j ≤ stepBits K k := by
  intro j k h
  induction k with
  | zero => have : j = 0 := (by omega); subst this; exact Nat.le_refl _
  | succ k ih =>
    by_cases z : j = k + 1
    · subst z; exact Nat.le_refl _
    · have := ih (by omega); show _ ≤ 4 * stepBits K k + 2; omega
theorem upto_bits {M : List (List Rat)} {w K : Nat} (hw : Rect M w) (hK : 1 ≤ K) (hs : SmM K M) : ∀ c, c ≤ w → SmM (stepBits K (echUpto M c).2.length) (echUpto M c).1
  | 0, _ => hs
  | c + 1, hc => by
    have ih := upto_bits hw hK hs c (by omega)
    have ok := echUpto_ok hw c
    have k1 : 1 ≤ stepBits K (echUpto M c).2.length := Nat.le_trans hK (stepBits_le K (Nat.zero_le _))
    rw [echUpto]
    generalize echUpto M c = st at ih ok k1
    obtain ⟨N, p⟩ := st
    rcases step_bits ok.1 (by omega : c < w) (by rw [ok.2.1]; exact ok.2.2) k1 ih with h | ⟨h1, h2⟩
    · rw [h]; exact ih
    · rw [h2]; exact h1
theorem bits_all {M : List (List Rat)} {w : Nat} (hw : Rect M w) (hs : SmM 9 M) (hM : M.length ≤ 3) : ∀ c, c ≤ w → SmM 700 (echUpto M c).1 := fun c hc row hr x hx => by
  have h := upto_bits hw (by decide) hs c hc row hr x hx
  have ok := (echUpto_ok hw c).2.2
  exact h.le (Nat.le_trans (stepBits_le 9 (by omega : (echUpto M c).2.length ≤ 3)) (by decide))
/-! plain facts: some square of the pivots' columns is not nought; the law's own questions -/

/-- columns of few rows that no weights but noughts kill have a square that is not nought -/
def tight (m : Nat → Nat → Rat) (n r : Nat) : Prop := ∀ x : Nat → Rat, (∀ i, i < n → sumTo r (fun k => x k * m i k) = 0) → ∀ k, k < r → x k = 0

def wt (a b c : Rat) : Nat → Rat
  | 0 => a
  | 1 => b
  | 2 => c
  | _ => 0

theorem tight1 {m : Nat → Nat → Rat} {n : Nat} (h : tight m n 1) : ∃ i, i < n ∧ m i 0 ≠ 0 := by
  apply Classical.byContradiction
  intro hn
  have hz : ∀ i, i < n → m i 0 = 0 := fun i hi => Classical.byContradiction fun q => hn ⟨i, hi, q⟩
  have := h (fun _ => 1) (fun i hi => by simp only [sumTo, hz i hi]; grind) 0 (by decide)
  grind
theorem tight2 {m : Nat → Nat → Rat} {n : Nat} (h : tight m n 2) : ∃ i j, i < n ∧ j < n ∧ m i 0 * m j 1 - m j 0 * m i 1 ≠ 0 := by
  apply Classical.byContradiction
  intro hn
  have hz : ∀ i j, i < n → j < n → m i 0 * m j 1 - m j 0 * m i 1 = 0 := fun i j hi hj => Classical.byContradiction fun q => hn ⟨i, j, hi, hj, q⟩
  have all0 : ∀ i, i < n → m i 0 = 0 ∧ m i 1 = 0 := by
    intro i hi
    have := h (wt (m i 1) (-(m i 0)) 0) (fun j hj => by
      have := hz i j hi hj
      simp only [sumTo, wt]; grind)
    have a := this 0 (by decide)
    have b := this 1 (by decide)
    simp only [wt] at a b
    exact ⟨by grind, a⟩
  have := h (wt 1 0 0) (fun i hi => by simp only [sumTo, wt, (all0 i hi).1]; grind) 0 (by decide)
  simp only [wt] at this
  grind
theorem wt_sum (a b c : Rat) (f : Nat → Rat) : sumTo 3 (fun k => wt a b c k * f k) = a * f 0 + b * f 1 + c * f 2 := by
  show 0 + a * f 0 + b * f 1 + c * f 2 = _
  rw [Rat.zero_add]
theorem for3 {P : Nat → Prop} (h0 : P 0) (h1 : P 1) (h2 : P 2) (i : Nat) (h : i < 3) : P i :=
  match i, h with
  | 0, _ => h0
  | 1, _ => h1
  | 2, _ => h2
/-- what three weights kill is nought -/
theorem tight_wt {m : Nat → Nat → Rat} (h : tight m 3 3) {a b c : Rat} (k : ∀ i, i < 3 → a * m i 0 + b * m i 1 + c * m i 2 = 0) : a = 0 ∧ b = 0 ∧ c = 0 :=
  have := h (wt a b c) fun i hi => (wt_sum a b c (m i)).trans (k i hi)
  ⟨this 0 (by decide), this 1 (by decide), this 2 (by decide)⟩
theorem tight3 {m : Nat → Nat → Rat} (h : tight m 3 3) :
    m 0 0 * (m 1 1 * m 2 2 - m 2 1 * m 1 2) - m 1 0 * (m 0 1 * m 2 2 - m 2 1 * m 0 2) + m 2 0 * (m 0 1 * m 1 2 - m 1 1 * m 0 2) ≠ 0 := by
  intro hz
  -- two rows' cross product kills all rows
  have c01 := tight_wt h (a := m 0 1 * m 1 2 - m 0 2 * m 1 1) (b := m 0 2 * m 1 0 - m 0 0 * m 1 2) (c := m 0 0 * m 1 1 - m 0 1 * m 1 0) (for3 (by grind) (by grind) (by grind))
  have c12 := tight_wt h (a := m 1 1 * m 2 2 - m 1 2 * m 2 1) (b := m 1 2 * m 2 0 - m 1 0 * m 2 2) (c := m 1 0 * m 2 1 - m 1 1 * m 2 0) (for3 (by grind) (by grind) (by grind))
  have c20 := tight_wt h (a := m 2 1 * m 0 2 - m 2 2 * m 0 1) (b := m 2 2 * m 0 0 - m 2 0 * m 0 2) (c := m 2 0 * m 0 1 - m 2 1 * m 0 0) (for3 (by grind) (by grind) (by grind))
  -- so the first column is nought
  have z0 : m 0 0 = 0 := by
    have := (tight_wt h (a := m 0 1) (b := -(m 0 0)) (c := 0) (for3 (by grind) (by grind) (by grind))).2.1
    grind
  have z1 : m 1 0 = 0 := by
    have := (tight_wt h (a := m 1 1) (b := -(m 1 0)) (c := 0) (for3 (by grind) (by grind) (by grind))).2.1
    grind
  have z2 : m 2 0 = 0 := by
    have := (tight_wt h (a := m 2 1) (b := -(m 2 0)) (c := 0) (for3 (by grind) (by grind) (by grind))).2.1
    grind
  have := (tight_wt h (a := 1) (b := 0) (c := 0) (for3 (by grind) (by grind) (by grind))).1
  grind
theorem ech_tight {R M : List (List Rat)} {cs : List Nat} {w : Nat} (h : Ech R cs w) (hk : ∀ φ, kills φ w M → kills φ w R) : tight (fun i k => ent M i (cs.getD k 0)) M.length cs.length := by
  intro x hx k hk'
  let φ : Nat → Rat := fun e => sumTo cs.length fun k => x k * (if e = cs.getD k 0 then 1 else 0)
  have sum : ∀ v : Nat → Rat, sumTo w (fun e => φ e * v e) = sumTo cs.length fun k => x k * v (cs.getD k 0) := by
    intro v
    have h1 : sumTo w (fun e => φ e * v e) = sumTo w fun e => sumTo cs.length fun k => x k * (if e = cs.getD k 0 then 1 else 0) * v e := by
      refine sumTo_congr w fun e _ => ?_
      have : sumTo cs.length (fun k => x k * (if e = cs.getD k 0 then 1 else 0) * v e) = sumTo cs.length (fun k => v e * (x k * (if e = cs.getD k 0 then 1 else 0))) := sumTo_congr _ fun k _ => by grind
      rw [this, sumTo_mul]
      show φ e * v e = v e * φ e
      grind
    rw [h1, sumTo_swap]
    refine sumTo_congr _ fun k hk => ?_
    rw [sumTo_one w (h.lt k hk) fun i hi hn => by rw [if_neg hn]; grind]
    rw [if_pos rfl]; grind
  have hs := h.short
  have := hk φ (fun i hi => by rw [sum]; exact hx i hi) k (by omega)
  rw [sum, sumTo_one cs.length hk' fun j hj hn => by rw [h.unit j hj k (by omega), if_neg (Ne.symm hn)]; grind] at this
  rw [h.unit k hk' k (by omega), if_pos rfl] at this
  grind

theorem ch_mem {M : List (List Rat)} : ∀ n, [] ∈ choices M n
  | 0 => by unfold choices; exact List.mem_singleton.mpr rfl
  | n + 1 => by unfold choices; exact List.mem_append_left _ (ch_mem n)
theorem ch_snoc {M : List (List Rat)} {ch : List Nat} {i : Nat} (P : ch ∈ choices M i) : ∀ n, i < n → ch ++ [i] ∈ choices M n
  | 0, h => absurd h (Nat.not_lt_zero _)
  | n + 1, h => by
    unfold choices
    by_cases z : i = n
    · subst z; exact List.mem_append_right _ (List.mem_map.mpr ⟨ch, P, rfl⟩)
    · exact List.mem_append_left _ (ch_snoc P n (Nat.lt_of_le_of_ne (Nat.le_of_lt_succ h) z))

section
variable (M : List (List Rat)) (a b c i j k : Nat)
theorem sq_nil (N : List (List Rat)) : sq [] N = 1 := rfl
theorem sq_one (x : List Rat) : sq [a] [x] = x.getD a 0 := by
  show 0 + 1 * (x.getD a 0 * 1) = _
  rw [Rat.zero_add, Rat.one_mul, Rat.mul_one]
theorem sq_two (x y : List Rat) : sq [a, b] [x, y] = x.getD a 0 * y.getD b 0 - y.getD a 0 * x.getD b 0 := by
  show 0 + 1 * (x.getD a 0 * sq [b] [y]) + -1 * (y.getD a 0 * sq [b] [x]) = _
  rw [sq_one, sq_one]; grind
theorem sq_three (x y z : List Rat) : sq [a, b, c] [x, y, z] = x.getD a 0 * (y.getD b 0 * z.getD c 0 - z.getD b 0 * y.getD c 0) - y.getD a 0 * (x.getD b 0 * z.getD c 0 - z.getD b 0 * x.getD c 0) + z.getD a 0 * (x.getD b 0 * y.getD c 0 - y.getD b 0 * x.getD c 0) := by
  have e : sq [a, b, c] [x, y, z] = 0 + sgn 0 * (x.getD a 0 * sq [b, c] [y, z]) + sgn 1 * (y.getD a 0 * sq [b, c] [x, z]) + sgn 2 * (z.getD a 0 * sq [b, c] [x, y]) := rfl
  rw [e, sq_two, sq_two, sq_two, show sgn 0 = 1 from rfl, show sgn 1 = -1 from rfl, show sgn 2 = 1 from rfl]; grind
end

theorem some_square {M : List (List Rat)} {cs : List Nat} (hM : M.length ≤ 3) (hc : cs.length ≤ M.length) (h : tight (fun i k => ent M i (cs.getD k 0)) M.length cs.length) :
    ∃ ch ∈ choices M M.length, ch.length = cs.length ∧ sq cs (pick M ch) ≠ 0 := by
  rcases cs with _ | ⟨a, _ | ⟨b, _ | ⟨c, _ | ⟨d, r⟩⟩⟩⟩
  · exact ⟨[], ch_mem _, rfl, by rw [sq_nil]; decide⟩
  · obtain ⟨i, hi, hne⟩ := tight1 h
    exact ⟨[i], ch_snoc (ch_mem i) _ hi, rfl, by show sq [a] [M.getD i []] ≠ 0; rw [sq_one]; exact hne⟩
  · obtain ⟨i, j, hi, hj, hne⟩ := tight2 h
    have val : ∀ i j, sq [a, b] (pick M [i, j]) = ent M i a * ent M j b - ent M j a * ent M i b := fun i j => sq_two a b _ _
    have hne' : ent M i a * ent M j b - ent M j a * ent M i b ≠ 0 := hne
    rcases Nat.lt_trichotomy i j with z | z | z
    · exact ⟨[i, j], ch_snoc (ch_snoc (ch_mem i) j z) _ hj, rfl, by rw [val]; exact hne'⟩
    · subst z; exact (hne' (by grind)).elim
    · exact ⟨[j, i], ch_snoc (ch_snoc (ch_mem j) i z) _ hi, rfl, by rw [val]; intro q; exact hne' (by grind)⟩
  · have hl : M.length = 3 := Nat.le_antisymm hM hc
    rw [hl] at h ⊢
    exact ⟨[0, 1, 2], ch_snoc (ch_snoc (ch_snoc (ch_mem 0) 1 (by decide)) 2 (by decide)) 3 (by decide), rfl, by
      show sq [a, b, c] [M.getD 0 [], M.getD 1 [], M.getD 2 []] ≠ 0
      rw [sq_three]; exact tight3 h⟩
  · exact absurd (Nat.le_trans hc hM) (by simp)

/-! ### the law's questions -/
structure Answers (M R : List (List Rat)) (cs : List Nat) (w : Nat) : Prop where
  ech : Ech R cs w
  rectM : Rect M w
  rectR : Rect R w
  len : R.length = M.length
  sub : ∀ φ, kills φ w R ↔ kills φ w M

theorem answers {M : List (List Rat)} {w : Nat} (h : Rect M w) : Answers M (echUpto M w).1 (echUpto M w).2 w :=
  have a := echUpto_ok h w
  ⟨ech_upto h w (Nat.le_refl _), h, a.1, a.2.1, fun φ => kills_upto h φ w (Nat.le_refl _)⟩

section
variable {M R : List (List Rat)} {cs : List Nat} {w : Nat}
theorem Answers.cw (A : Answers M R cs w) : ∀ c ∈ cs, c < w := fun c hc => by
  obtain ⟨k, hk, rfl⟩ := mem_getD'.mp hc
  exact A.ech.lt k hk
theorem idx_getD (A : Answers M R cs w) {k : Nat} (hk : k < cs.length) : cs.idxOf (cs.getD k 0) = k := by
  have hm : cs.getD k 0 ∈ cs := mem_getD'.mpr ⟨k, hk, rfl⟩
  have hi : cs.idxOf (cs.getD k 0) < cs.length := List.idxOf_lt_length_iff.mpr hm
  have hg : cs.getD (cs.idxOf (cs.getD k 0)) 0 = cs.getD k 0 := by
    rw [List.getD_eq_getElem?_getD (l := cs) (i := cs.idxOf _), List.getElem?_eq_getElem hi]
    exact List.getElem_idxOf hi
  rcases Nat.lt_trichotomy (cs.idxOf (cs.getD k 0)) k with h | h | h
  · have := A.ech.up _ _ h hk; omega
  · exact h
  · have := A.ech.up _ _ h hi; omega
theorem Answers.unit (A : Answers M R cs w) : ∀ c, c < w → c ∈ cs → ∀ i, i < R.length → ent R i c = if i = cs.idxOf c then 1 else 0 := by
  intro c hc hm i hi
  obtain ⟨k, hk, rfl⟩ := mem_getD'.mp hm
  rw [idx_getD A hk]
  exact A.ech.unit k hk i hi
theorem told_sum (A : Answers M R cs w) {c : Nat} (hc : c < w) (hn : c ∉ cs) (line : List Rat) : ∀ i, i ≤ cs.length → told R cs c line (ahead cs c i) = sumTo i fun k => line.getD (cs.getD k 0) 0 * ent R k c
  | 0, _ => rfl
  | i + 1, h => by
    have ih := told_sum A hc hn line i (by omega)
    rw [ahead_succ, sumTo, ← ih]
    split
    · rw [told_snoc]; grind
    · rename_i z
      have hne : cs.getD i 0 ≠ c := fun e => hn (mem_getD'.mpr ⟨i, by omega, e⟩)
      rw [A.ech.lead i (by omega) c (by omega), List.append_nil]; grind
theorem Answers.line (A : Answers M R cs w) : ∀ c, c < w → c ∉ cs → ∀ line ∈ M, told R cs c line (ahead cs c cs.length) = line.getD c 0 := by
  intro c hc hn line hl
  obtain ⟨i, hi⟩ := List.getElem?_of_mem hl
  have hlt := (List.getElem?_eq_some_iff.mp hi).1
  have e : ∀ d, line.getD d 0 = ent M i d := fun d => by
    unfold ent; rw [List.getD_eq_getElem?_getD (l := M), hi]; rfl
  rw [told_sum A hc hn line _ (Nat.le_refl _), e, row_sum A.ech (fun φ => (A.sub φ).mp) hlt hc]
  exact sumTo_congr _ fun k _ => by rw [e]
theorem Answers.zero (A : Answers M R cs w) : ∀ c, c < w → c ∉ cs → ∀ i, i < R.length → i ∉ ahead cs c cs.length → ent R i c = 0 := by
  intro c hc hn i hi hna
  by_cases z : i < cs.length
  · refine A.ech.lead i z c ?_
    have hne : cs.getD i 0 ≠ c := fun e => hn (mem_getD'.mpr ⟨i, z, e⟩)
    have : ¬ cs.getD i 0 < c := fun y => hna (List.mem_filter.mpr ⟨List.mem_range.mpr z, by simpa using y⟩)
    omega
  · exact A.ech.rest i (by omega) hi c hc

theorem sumUpto_at (fs : List Rat) (R : List (List Rat)) (w : Nat) {d : Nat} (hd : d < w) : ∀ k, (sumUpto fs R w k).getD d 0 = sumTo k fun j => fs.getD j 0 * ent R j d
  | 0 => by
    rw [sumUpto, sumTo, List.getD_eq_getElem?_getD, List.getElem?_replicate, if_pos hd]; rfl
  | k + 1 => by
    rw [sumUpto, sumTo, ← sumUpto_at fs R w hd k, List.getD_eq_getElem?_getD, List.getElem?_map, List.getElem?_range hd]; rfl
theorem Answers.sum (A : Answers M R cs w) : ∀ line ∈ M, sumUpto (cs.map fun c => line.getD c 0) R w cs.length = line := by
  intro line hl
  obtain ⟨i, hi⟩ := List.getElem?_of_mem hl
  have hlt := (List.getElem?_eq_some_iff.mp hi).1
  have e : ∀ d, line.getD d 0 = ent M i d := fun d => by
    unfold ent; rw [List.getD_eq_getElem?_getD (l := M), hi]; rfl
  have hw := A.rectM line hl
  refine List.ext_getElem (by rw [sumUpto_length, hw]) fun d h1 h2 => ?_
  have hd : d < w := by omega
  have a := sumUpto_at (cs.map fun c => line.getD c 0) R w hd cs.length
  rw [List.getD_eq_getElem?_getD, List.getElem?_eq_getElem h1] at a
  have b := e d
  rw [List.getD_eq_getElem?_getD, List.getElem?_eq_getElem h2] at b
  have a' : (sumUpto (cs.map fun c => line.getD c 0) R w cs.length)[d] = sumTo cs.length fun j => (cs.map fun c => line.getD c 0).getD j 0 * ent R j d := a
  have b' : line[d] = ent M i d := b
  rw [a', b', row_sum A.ech (fun φ => (A.sub φ).mp) hlt hd]
  refine sumTo_congr _ fun k hk => ?_
  congr 1
  rw [← e, List.getD_eq_getElem?_getD, List.getElem?_map, List.getD_eq_getElem?_getD (l := cs), List.getElem?_eq_getElem hk]; rfl
theorem Answers.free (A : Answers M R cs w) (hM : M.length ≤ 3) : ∃ ch ∈ choices M M.length, ch.length = cs.length ∧ sq cs (pick M ch) ≠ 0 :=
  some_square hM (by have := A.ech.short; have := A.len; omega) (ech_tight A.ech fun φ => (A.sub φ).mpr)
theorem Answers.sorted (A : Answers M R cs w) {ns : List Int} (hp : ns.Perm (cs.map fun c : Nat => (c : Int))) (hs : ns.Pairwise (· ≤ ·)) : ns = cs.map fun c : Nat => (c : Int) := by
  refine List.Perm.eq_of_pairwise (le := (· ≤ ·)) (fun a b _ _ h1 h2 => Int.le_antisymm h1 h2) hs ?_ hp
  rw [List.pairwise_map]
  exact (up_pairwise A.ech.up).imp fun h => by omega
end

/-- the law's first look -/
theorem first_look : echUpto [[1, 2], [2, 4]] 2 = ([[1, 2], [0, 0]], [0]) := by decide +kernel
/-! ### list(reversed(xs)) -/
theorem nolen_lri : typeLookup (.type "list_reverseiterator") "__len__" = pure none := by rw [typeLookup_type, builtinLookup_eq_fast]; kernel_rfl
theorem hint_lri : typeLookup (.type "list_reverseiterator") "__length_hint__" = pure (some (.builtin "list_reverseiterator.__length_hint__")) := by rw [typeLookup_type, builtinLookup_eq_fast]; kernel_rfl

section
variable {prog : Program} {w : World} {A : Around} {E : Value → Shared → Prop} {s : Shared}
theorem wpAny_extend_rev {R : Result → Shared → Prop} {it l : Addr} {items : Array Value} (hh : A.handled = none) (hit : s.heap.IsRevIter it l ((items.size : Int) - 1)) (hl : s.heap.IsList l items) (hne : l ≠ it)
    (S : Addr) (hSi : S ≠ it) (hSl : S ≠ l) (res : Value) (c₀ : Nat) (hS : s.heap.get? S = some { cls := .type "list", data := .seq #[] c₀ })
    (hR : ∀ h' tk acc' c', (∀ b o, b ≠ S → b ≠ it → s.heap.get? b = some o → h'.get? b = some o) → h'.get? S = some { cls := .type "list", dict := none, data := .seq acc' c', slots := #[] } →
      ItemsOf (fun i v => items[items.size - 1 - i]? = some v) acc' items.size → R (.ok (.ret res)) { s with heap := h', toks := tk }) (hn : items.size ≤ sizeLine) :
    wpAny (model prog w) A.in1 (Builtin.List.listExtendWith (.ref S) (.ref it) res)
      (fun fin s' => match fin with | .done f => R (.ok f) s' | .again c' => c'.quiet = true ∧ codeAny (model prog w) A c' R s') (fun e s' => R (.error e) s') s := by
  have hSf : S ∉ [it, l] := fun hm => by
    rcases List.mem_cons.mp hm with e | hm
    · exact hSi e
    · exact hSl (List.mem_singleton.mp hm)
  have W := (Walks.listRev (prog := prog) (w := w) (A := A.in1) hh it l hne items).toS
  unfold Builtin.List.listExtendWith
  refine wpAny_bind (wpAny_typeOf (T := "list_reverseiterator") hit.typeIs ?_)
  have h1 : Builtin.List.listSameRef (.ref S) (.ref it) = false := by simp [Builtin.List.listSameRef, hSi]
  have h2 : (Value.type "list_reverseiterator" == Value.type "list") = false := by decide
  have h3 : (Value.type "list_reverseiterator" == Value.type "tuple") = false := by decide
  simp only [h1, h2, h3, Bool.or_false, Bool.false_eq_true, if_false]
  refine wpAny_bind (wpAny_pyIter_revIter hit ?_)
  refine wpAny_bind (wpAny_holding ?_)
  unfold Builtin.List.listLengthHint
  refine wpAny_bind (wpAny_specialOf hit.typeIs nolen_lri ?_)
  show wpAny _ A.in1 (specialOf (Value.ref it) (PySem.Str.ofString "__length_hint__") >>= _) _ _ _
  refine wpAny_bind (wpAny_specialOf hit.typeIs hint_lri ?_)
  (generalize hid : ("list_reverseiterator.__length_hint__" : String) = id0; (fail_if_success (clear hid id0)); wp_delta; rw [show splitId id0 = some ("list_reverseiterator", "__length_hint__") from by subst hid; decide +kernel]; subst hid)
  refine wpAny_bind (wpAny_isInstance (b := true) hit.typeIs (by rw [isSubtype_type]; kernel_rfl) ?_)
  refine wpAny_pure ?_
  rw [if_neg (by decide)]
  have e0 : (items.size : Int) - 1 = (items.size : Int) - 1 - ((0 : Nat) : Int) := by omega
  refine wpAny_pure ⟨plainId_quiet F.plain_extend_loop _, codeAny_extend_loopS W hn _ hSf _ items.size 0 _ _ _ rfl (Nat.zero_le _) ⟨Nat.zero_le _, e0 ▸ hit, hl⟩ hS (ItemsOf.nil _) fun s' acc' c' hm hS' hacc => ?_⟩
  rw [Moved.eq_with hm]
  refine hR s'.heap s'.toks acc' c' (fun b o hb hb' e => hm.heap b o (fun hmem => ?_) e) hS' hacc
  rcases List.mem_cons.mp hmem with e' | hmem
  · exact hb e'
  · exact hb' (List.mem_singleton.mp hmem)

theorem wpAny_list_init_rev {R : Result → Shared → Prop} {it l : Addr} {items : Array Value} (hh : A.handled = none) (hit : s.heap.IsRevIter it l ((items.size : Int) - 1)) (hl : s.heap.IsList l items) (hne : l ≠ it)
    (S : Addr) (hSi : S ≠ it) (hSl : S ≠ l) (hS : s.heap.get? S = some { cls := .type "list", data := .seq #[] })
    (hR : ∀ h' tk acc' c', (∀ b o, b ≠ S → b ≠ it → s.heap.get? b = some o → h'.get? b = some o) → h'.get? S = some { cls := .type "list", dict := none, data := .seq acc' c', slots := #[] } →
      ItemsOf (fun i v => items[items.size - 1 - i]? = some v) acc' items.size → R (.ok (.ret .none)) { s with heap := h', toks := tk }) (hn : items.size ≤ sizeLine) :
    wpAny (model prog w) A.in1 (Builtin.«list.__init__» ⟨[.ref S, .ref it], []⟩)
      (fun fin s' => match fin with | .done f => R (.ok f) s' | .again c' => c'.quiet = true ∧ codeAny (model prog w) A c' R s') (fun e s' => R (.error e) s') s := by
  show wpAny _ _ (do let old ← Builtin.List.listItems (.ref S); Builtin.List.listUpdate (.ref S) (fun _ => #[]); letGo old.toList.reverse; Builtin.List.listExtendWith (.ref S) (.ref it) .none) _ _ s
  refine wpAny_bind ?_
  unfold Builtin.List.listItems
  refine wpAny_bind (wpAny_seqItems hS rfl (wpAny_pure ?_))
  show wpAny _ _ (updateSeq S (fun _ => #[]) >>= fun _ => letGo (#[] : Array Value).toList.reverse >>= fun _ => Builtin.List.listExtendWith (.ref S) (.ref it) .none) _ _ s
  refine wpAny_bind (wpAny_updateSeq hS rfl ?_)
  have hS₂ := Heap.get?_update_self (Obj.mapSeq (fun _ => (#[] : Array Value))) hS rfl
  have oth : ∀ b o, b ≠ S → s.heap.get? b = some o → (s.heap.update S (Obj.mapSeq (fun _ => (#[] : Array Value)))).get? b = some o :=
    fun b o hb e => (Heap.get?_update_other _ _ (Ne.symm hb)).trans e
  refine wpAny_bind (wpAny_letGo ?_)
  refine wpAny_extend_rev hh (hit.at fun o e => oth it o (Ne.symm hSi) e) (hl.at fun o e => oth l o (Ne.symm hSl) e) hne S hSi hSl .none _ hS₂ (fun h' tk acc' c' hk hS' hacc => ?_) hn
  exact hR h' tk acc' c' (fun b o hb hb' e => hk b o hb hb' (oth b o hb e)) hS' hacc

theorem call_list_rev {Q : Value → Shared → Prop} {it l : Addr} {items : Array Value} (hh : A.handled = none) (hit : s.heap.IsRevIter it l ((items.size : Int) - 1)) (hl : s.heap.IsList l items) (hne : l ≠ it)
    (hQ : ∀ h' tk acc' c', (∀ b o, b ≠ it → s.heap.get? b = some o → h'.get? b = some o) →
      h'.get? s.heap.objs.size = some { cls := .type "list", dict := none, data := .seq acc' c', slots := #[] } → ItemsOf (fun i v => items[items.size - 1 - i]? = some v) acc' items.size → Q (.ref s.heap.objs.size) { s with heap := h', toks := tk }) (hn : items.size ≤ sizeLine) :
    wpAny (model prog w) A (call (.type "list") [.ref it]) Q E s := by
  refine callType_codes (Q₁ := fun obj s₁ => obj = .ref s.heap.objs.size ∧ s₁ = { s with heap := s.heap.push { cls := .type "list", data := .seq #[] } }) F.called_list (F.typeCall_list_1 _) F.entry_list_init
    (code_list_new _ ⟨rfl, rfl⟩) fun obj s₁ h₁ => ?_
  obtain ⟨rfl, rfl⟩ := h₁
  have hS : (s.heap.push { cls := .type "list", data := .seq #[] }).get? s.heap.objs.size = some { cls := .type "list", data := .seq #[] } := Heap.get?_push_size _ rfl
  have hi : s.heap.objs.size ≠ it := fun e => by
    obtain ⟨o, ho, _⟩ := hit; exact Nat.lt_irrefl _ (e ▸ Heap.lt_size ho)
  have hl' : s.heap.objs.size ≠ l := fun e => by
    obtain ⟨o, ho, _⟩ := hl; exact Nat.lt_irrefl _ (e ▸ Heap.lt_size ho)
  refine ⟨⟨_, hS, rfl⟩, F.args_list_init_2 _ _, wpAny_list_init_rev (A := A.in1) hh (hit.at fun o e => Heap.get?_push_of_some _ e) (hl.at fun o e => Heap.get?_push_of_some _ e) hne _ hi hl' hS (fun h' tk acc' c' hk hS' hacc => ?_) hn⟩
  exact ⟨rfl, hQ h' tk acc' c' (fun b o hb e => hk b o (Nat.ne_of_lt (Heap.lt_size e)) hb (Heap.get?_push_of_some _ e)) hS' hacc⟩
end

theorem VRs.ofGet {h : Heap} : ∀ {vs : List V} {xs : List Value}, vs.length = xs.length → (∀ (i : Nat) (c : Value), xs[i]? = some c → ∃ v, vs[i]? = some v ∧ VR h v c) → VRs h vs xs
  | [], [], _, _ => .nil
  | [], _ :: _, h, _ => by cases h
  | _ :: _, [], h, _ => by cases h
  | v :: vs, x :: xs, h, k => by
    obtain ⟨v', h1, h2⟩ := k 0 x rfl
    cases h1
    exact .cons h2 (VRs.ofGet (by simpa using h) fun i c e => k (i + 1) c e)

section
variable {X : X0} {fa : Nat → Addr} {sc : Scope} {n : Nat} {ρ : AL} {H : AH} {Φ : V → AH → Prop}
theorem Ev_listRev (L : Env1 X fa) {e : Expr} {p₁ p₂ pos₁ pos₂ : Pos} (hk : sc.names.lookup (PySem.Str.ofString "list") = some .globalImplicit) (hk' : sc.names.lookup (PySem.Str.ofString "reversed") = some .globalImplicit)
    (h : Ev X sc n e ρ H fun v H₁ => ∃ a vs, v = .ref a ∧ H₁ a = some vs ∧ vs.length ≤ sizeLine ∧ ∀ b, H₁ b = none → Φ (.ref b) (upd H₁ b vs.reverse))
    (hs : ∀ env, starEach [e] env = (false, eval e env) :: starEach [] env := by intro _; rfl) :
    Ev X sc n (.Call (.Name (PySem.Str.ofString "list") p₁) [.Call (.Name (PySem.Str.ofString "reversed") p₂) [e] [] pos₂] [] pos₁) ρ H Φ := by
  intro env B A s Q E he hA hR hF k
  obtain ⟨g1, g2⟩ := L.blt "list" (.type "list") (by simp)
  obtain ⟨g3, g4⟩ := L.blt "reversed" (.type "reversed") (by simp)
  have hc : ∀ (x : PySem.Str) (p : Pos) (e : Expr) pos, eval (.Call (.Name x p) [e] [] pos) env = (do callWith pos (← eval (.Name x p) env) [] (backTo pos (starEach [e] env)) (backToKw pos (keywordEach [] env))) := by intro _ _ _ _; rfl
  rw [hc]
  refine wpAny_bind (Ev_Blt (X := X) (n := n) (Φ := fun v H' => v = .raw (.type "list") ∧ H' = H) hk g1 g2 ⟨rfl, rfl⟩ (by decide) env B A s _ E he hA hR hF fun fv cf H₁ h₁ tk₁ p₁ v₁ R₁ F₁ t₁ => ?_)
  obtain ⟨rfl, rfl⟩ := p₁
  obtain rfl := v₁.rawInv
  refine typCall rfl rfl rfl ?_
  refine spliced_cons (x := eval (.Call (.Name (PySem.Str.ofString "reversed") p₂) [e] [] pos₂) env) ?_
  rw [hc]
  refine wpAny_bind (Ev_Blt (X := X) (n := n) (Φ := fun v H' => v = .raw (.type "reversed") ∧ H' = H₁) hk' g3 g4 ⟨rfl, rfl⟩ (by decide) env B A _ _ E he hA R₁ F₁ fun fv cf H₂ h₂ tk₂ p₂ v₂ R₂ F₂ t₂ => ?_)
  obtain ⟨rfl, rfl⟩ := p₂
  obtain rfl := v₂.rawInv
  refine typCall rfl (hs env) rfl ?_
  rw [hs env]
  refine spliced_cons (x := eval e env) (h env B A _ _ E he hA R₂ F₂ fun v cv H₃ h₃ tk₃ p₃ v₃ R₃ F₃ t₃ => ?_)
  obtain ⟨a, vs, rfl, hl, hsz, p₃⟩ := p₃
  obtain rfl := v₃.refInv
  refine spliced_nil ?_
  obtain ⟨xs, m, hL, hx⟩ := R₃.lst hl
  have hlen := hx.length
  refine call_reversed_list hL.isList ?_
  refine spliced_nil ?_
  have x₁ : Ext h₃ (h₃.push (revObj a ((xs.size : Int) - 1))) := Ext.push _ _
  have hne : a ≠ h₃.objs.size := fun z => by
    obtain ⟨o, ho, _⟩ := hL.isList; exact Nat.lt_irrefl _ (z ▸ Heap.lt_size ho)
  refine call_list_rev hA.1 (it := h₃.objs.size) (l := a) (items := xs) ⟨_, Heap.get?_push_size _ rfl, rfl, rfl⟩ (hL.isList.at fun o e => x₁ _ _ e) hne (fun h' tk acc' c' hk hS' hacc => ?_) (by simp at hlen; omega)
  have x : Ext h₃ h' := fun b o e => hk b o (fun z => Nat.lt_irrefl _ (z ▸ Heap.lt_size e)) (x₁ b o e)
  obtain ⟨hn, R⟩ := R₃.newAt x (D := (h₃.push (revObj a ((xs.size : Int) - 1))).objs.size) (by rw [Heap.size_push]; exact Nat.le_succ _) (m := c') (xs := acc') (vs := vs.reverse) hS' (VRs.ofGet (by
      have := hacc.1; simp at hlen ⊢; omega) fun i c e => by
    have h1 := hacc.2 i c (by simpa using e)
    have hi : i < xs.size := by rw [← hacc.1]; exact (Array.getElem?_eq_some_iff.mp (by simpa using e)).1
    have hi' : i < vs.length := by simp at hlen; omega
    have hj : xs.size - 1 - i < vs.length := by simp at hlen; omega
    obtain ⟨c', hc', q⟩ := (hx.mono (Ext.tk x)).get (List.getElem?_eq_getElem hj)
    have : c' = c := by
      rw [Array.getElem?_toList, h1] at hc'; exact (Option.some.inj hc').symm
    subst this
    refine ⟨_, ?_, q⟩
    rw [List.getElem?_reverse hi']
    have : vs.length - 1 - i = xs.size - 1 - i := by simp at hlen; omega
    rw [this]; exact List.getElem?_eq_getElem hj)
  exact k _ _ _ h' tk (p₃ _ hn) (.ref _) R (F₃.ext R₃ x) (t₁.trans (t₂.trans (t₃.trans (Ext.tk x))))
end
theorem KegAt.grow {H H' : AH} {g l : Addr} {ns : List Int} {s t : Int} (k : KegAt H g l ns s t) (x : Grow H H') : KegAt H' g l ns s t :=
  ⟨x _ _ k.keg, x _ _ k.cells, k.ne, k.some_, k.few, k.s0, k.t0, k.tb⟩
theorem KegAt.other {H H' : AH} {g l : Addr} {ns : List Int} {s t : Int} (k : KegAt H g l ns s t) (h1 : H' g = H g) (h2 : H' l = H l) : KegAt H' g l ns s t :=
  ⟨h1.trans k.keg, h2.trans k.cells, k.ne, k.some_, k.few, k.s0, k.t0, k.tb⟩

/-- bits of the rows, by their place -/
def bb : Nat → Nat
  | 0 => 3
  | 1 => 5
  | _ => 9
theorem bb_le (j : Nat) : bb j ≤ 9 := by
  unfold bb; split <;> omega

/-- the matrix as far as it is made, the keg beside it; at most T draws -/
structure Built (H : AH) (g l : Addr) (ns : List Int) (a : Addr) (w i : Nat) (T : Int) (rs : List Addr) (M : List (List Rat)) : Prop where
  keg : ∃ s t : Int, t ≤ T ∧ KegAt H g l ns s t
  mat : MatAt H a rs M
  len : M.length = i
  rect : Rect M w
  bits : ∀ j row, M[j]? = some row → ∀ x ∈ row, SmQ (bb j) x
  pos : 0 < w

theorem Built.ag {H : AH} {g l : Addr} {ns : List Int} {a : Addr} {w i : Nat} {T : Int} {rs : List Addr} {M : List (List Rat)} (b : Built H g l ns a w i T rs M) : a ≠ g ∧ a ≠ l := by
  obtain ⟨s, t, _, k⟩ := b.keg
  have ho := b.mat.out
  refine ⟨fun z => ?_, fun z => ?_⟩
  · rw [z, k.keg] at ho
    cases rs with
    | nil => simp at ho
    | cons r rs => simp at ho
  · rw [z, k.cells] at ho
    have hs := k.some_
    cases ns with
    | nil => simp at hs
    | cons n ns => cases rs with
      | nil => simp at ho
      | cons r rs => simp at ho
theorem Built.rg {H : AH} {g l : Addr} {ns : List Int} {a : Addr} {w i : Nat} {T : Int} {rs : List Addr} {M : List (List Rat)} (b : Built H g l ns a w i T rs M) : ∀ r ∈ rs, r ≠ g ∧ r ≠ l := by
  intro r hr
  obtain ⟨s, t, _, k⟩ := b.keg
  obtain ⟨j, hj⟩ := List.getElem?_of_mem hr
  obtain ⟨row, h1, h2⟩ := b.mat.row j r hj
  have hl := b.rect row (List.mem_of_getElem? h1)
  have hp := b.pos
  cases row with
  | nil => simp at hl; omega
  | cons x row =>
    refine ⟨fun z => ?_, fun z => ?_⟩
    · rw [z, k.keg] at h2; simp [qv] at h2
    · rw [z, k.cells] at h2
      have hs := k.some_
      cases ns with
      | nil => simp at hs
      | cons n ns => simp [qv] at h2

theorem Built.le {H : AH} {g l : Addr} {ns : List Int} {a : Addr} {w i : Nat} {T T' : Int} {rs : List Addr} {M : List (List Rat)} (b : Built H g l ns a w i T rs M) (h : T ≤ T') : Built H g l ns a w i T' rs M :=
  let ⟨s, t, ht, k⟩ := b.keg
  ⟨⟨s, t, by omega, k⟩, b.mat, b.len, b.rect, b.bits, b.pos⟩
theorem Built.grow {H H' : AH} {g l : Addr} {ns : List Int} {a : Addr} {w i : Nat} {T : Int} {rs : List Addr} {M : List (List Rat)} (b : Built H g l ns a w i T rs M) (x : Grow H H') : Built H' g l ns a w i T rs M :=
  let ⟨s, t, ht, k⟩ := b.keg
  ⟨⟨s, t, ht, k.grow x⟩, b.mat.grow x, b.len, b.rect, b.bits, b.pos⟩
theorem Built.tap {H : AH} {g l : Addr} {ns : List Int} {a : Addr} {w i : Nat} {T : Int} {rs : List Addr} {M : List (List Rat)} (b : Built H g l ns a w i T rs M) {s' t' : Int} (k : KegAt (upd H g [.int s', .ref l, .int t']) g l ns s' t') (ht : t' ≤ T + 1) :
    Built (upd H g [.int s', .ref l, .int t']) g l ns a w i (T + 1) rs M :=
  ⟨⟨s', t', ht, k⟩, b.mat.other (upd_ne b.ag.1) fun r hr => upd_ne (b.rg r hr).1, b.len, b.rect, b.bits, b.pos⟩

/-- a row more -/
theorem Built.push {H : AH} {g l : Addr} {ns : List Int} {a c : Addr} {w i : Nat} {T : Int} {rs : List Addr} {M : List (List Rat)} (b : Built H g l ns a w i T rs M) {row : List Rat} (hc : H c = some (row.map qv)) (hca : c ≠ a)
    (hw : row.length = w) (hb : ∀ x ∈ row, SmQ (bb i) x) : Built (upd H a (rs.map V.ref ++ [.ref c])) g l ns a w (i + 1) T (rs ++ [c]) (M ++ [row]) := by
  obtain ⟨s, t, ht, k⟩ := b.keg
  have hm := b.mat.len
  have hi := b.len
  refine ⟨⟨s, t, ht, k.other (upd_ne (Ne.symm b.ag.1)) (upd_ne (Ne.symm b.ag.2))⟩, ⟨by simp [hm], by rw [upd_same, List.map_append]; rfl, fun j r e => ?_, fun r hr => ?_⟩, by simp [hi], fun r hr => ?_, fun j r e => ?_, b.pos⟩
  · rw [List.getElem?_append] at e ⊢
    by_cases z : j < rs.length
    · rw [if_pos z] at e
      rw [if_pos (by omega)]
      obtain ⟨row', h1, h2⟩ := b.mat.row j r e
      exact ⟨row', h1, by rw [upd_ne (b.mat.ne r (List.mem_of_getElem? e))]; exact h2⟩
    · rw [if_neg z] at e
      rw [if_neg (by omega), ← hm]
      have hj := last_ix e
      rw [hj] at e ⊢
      simp at e; subst e
      exact ⟨row, rfl, by rw [upd_ne hca]; exact hc⟩
  · rcases List.mem_append.mp hr with h | h
    · exact b.mat.ne r h
    · rw [List.mem_singleton.mp h]; exact hca
  · rcases List.mem_append.mp hr with h | h
    · exact b.rect r h
    · rw [List.mem_singleton.mp h]; exact hw
  · rw [List.getElem?_append] at e
    by_cases z : j < M.length
    · rw [if_pos z] at e; exact b.bits j r e
    · rw [if_neg z] at e
      have hj := last_ix e
      rw [hj] at e
      simp at e; subst e
      have : j = i := (ix_eq z hj).trans hi
      rw [this]; exact hb

theorem MatAt.blank {H : AH} {a r : Addr} {rs : List Addr} {M : List (List Rat)} {ws : List V} (m : MatAt H a rs M) (hra : r ≠ a) (hr : H r = some ws) (b : Nat) :
    MatAt (upd H r (ws.set b (qv 0))) a rs (M.mapIdx fun j row => if rs[j]? = some r then row.set b 0 else row) where
  len := by simp [m.len]
  out := by rw [upd_ne (Ne.symm hra)]; exact m.out
  row j q e := by
    obtain ⟨row, h1, h2⟩ := m.row j q e
    rw [List.getElem?_mapIdx, h1, Option.map_some]
    by_cases z : q = r
    · subst z
      refine ⟨row.set b 0, by rw [if_pos e], ?_⟩
      rw [hr] at h2
      rw [upd_same, List.map_set, ← Option.some.inj h2]
    · refine ⟨row, by rw [if_neg (by rw [e]; intro y; exact z (Option.some.inj y))], ?_⟩
      rw [upd_ne z]; exact h2
  ne := m.ne

section
variable {X : X0} {fa : Nat → Addr} {n : Nat} {H : AH} {Φ : V → AH → Prop}

theorem tap_built (L : Env1 X fa) {g l a : Addr} {ns : List Int} {w i : Nat} {T top : Int} {rs : List Addr} {M : List (List Rat)} (b : Built H g l ns a w i T rs M) (hT : T < 900000) (h1 : 1 ≤ top) (h2 : top ≤ 100)
    (h : ∀ v H', 0 ≤ v → v < top → Built H' g l ns a w i (T + 1) rs M → Φ (.int v) H') : Calls X (n + 1) (.ref (fa 22)) [.ref g, .int top] H Φ := by
  obtain ⟨s, t, ht, k⟩ := b.keg
  refine tap_ok L k (by omega) h1 h2 fun v s' t' v1 v2 s0 t1 t2 => ?_
  have t0 := k.t0
  exact h v _ v1 v2 (b.tap (k.set s0 (by omega) (by omega)) (by omega))

theorem int_q (v : Int) : V.tup [.int v, .int 1] = qv (v : Rat) := by
  unfold qv; rw [Rat.num_intCast, Rat.den_intCast]; rfl

theorem matrix_ok (L : Env1 X fa) {g l : Addr} {ns : List Int} (k : KegAt H g l ns 0 0)
    (h : ∀ a rs M w H', MatAt H' a rs M → Rect M w → 0 < M.length → M.length ≤ 3 → 0 < w → w ≤ 4 → SmM 9 M → Φ (.tup [.ref a, .int (w : Nat)]) H') :
    Calls X (n + 4) (.ref (fa 30)) [.ref g] H Φ := by
  refine call1 (a := "keg") (L.fn 30) (by intros; rfl) (by decide +kernel) ?_
  -- the width
  refine Sx_cons ?_
  repeat walk_at "stp"
  refine Ev_fn L 22 (by decide +kernel) (by decide +kernel) ?_
  repeat walk_at "stp"
  refine (tap_ok (n := n) L k (by omega) (by omega) (by omega) fun v s1 t1 v1 v2 s0 t01 t02 => ?_).le (Nat.le_add_right (n + 1) 2)
  have k1 := k.set s0 (by omega : 0 ≤ t1) (by omega)
  generalize upd H g [.int s1, .ref l, .int t1] = H₁ at k1
  obtain ⟨w, hw⟩ := Int.eq_ofNat_of_zero_le (a := 1 + v) (by omega)
  repeat walk_at "stp"
  rw [hw]
  have hw0 : 0 < w := by omega
  have hw4 : w ≤ 4 := by omega
  repeat walk_at "stp"
  -- no rows yet
  refine Sx_cons (St_Assign (Ev_List (Es_nil ⟨by decide, fun a ha => ?_⟩)))
  repeat walk_at "stp"
  have b0 : Built (upd H₁ a []) g l ns a w 0 1 [] [] :=
    ⟨⟨s1, t1, by omega, k1.grow (Grow.upd ha)⟩, ⟨rfl, upd_same, fun i r e => by simp at e, fun r hr => by cases hr⟩, rfl, fun r hr => by (cases hr), fun j r e => by simp at e, hw0⟩
  generalize upd H₁ a [] = H₂ at b0
  -- the rows
  refine Sx_cons (St_For (by decide +kernel) (It_upto L (by decide +kernel) ?_))
  repeat walk_at "stp"
  refine Ev_fn L 22 (by decide +kernel) (by decide +kernel) ?_
  repeat walk_at "stp"
  refine (tap_built (n := n) L b0 (by decide) (by decide) (by decide) fun v' H₃ v1' v2' b1 => ?_).le (Nat.le_add_right (n + 1) 2)
  repeat walk_at "stp"
  obtain ⟨m, hm⟩ := Int.eq_ofNat_of_zero_le (a := 1 + v') (by omega)
  refine ⟨m, by rw [hm], by omega, m, ?_⟩
  have hm0 : 0 < m := by omega
  have hm3 : m ≤ 3 := by omega
  refine Lp_inv (fun i ρ' H' => (∃ rs M, Built H' g l ns a w i (10 + 10 * i) rs M) ∧ ρ' "keg" = some (.ref g) ∧ ρ' "lines_of" = some (.ref a) ∧ ρ' "width" = some (.int (w : Nat))) m ?_ ?_ ?_
  · rintro i ρ' H' hi ⟨⟨rs, M, b⟩, g1, g2, g3⟩
    have hT0 : 10 + 10 * (i : Int) ≤ 200 := by omega
    have hi100 : i ≤ 100 := Nat.le_trans (Nat.le_of_lt hi) (Nat.le_trans hm3 (by decide))
    refine ⟨_, item_upto hi, fun Ψ kN kR => ?_⟩
    -- the manner
    refine Sx_cons ?_
    repeat walk_at "stp"
    refine Ev_fn L 22 (by decide +kernel) (by decide +kernel) ?_
    repeat walk_at "stp"
    refine (tap_built (n := n) L b (bud0 hT0) (by decide) (by decide) fun u H₄ u1 u2 b4 => ?_).le (Nat.le_add_right (n + 1) 2)
    repeat walk_at "stp"
    refine Sx_cons (St_If (Tv_mono (Φ := fun c H' => c = decide (u = 1 ∧ 0 < i) ∧ H' = H₄) ?_ ?_))
    · repeat walk_at "stp"
      by_cases hu : u = 1
      · refine iteP (by simpa using hu) ?_
        repeat walk_at "stp"
        by_cases h0 : 0 < i
        · refine iteP (by simpa using h0) ?_
          repeat walk_at "stp"
          exact ⟨by rw [decide_eq_true (p := _ ∧ _) ⟨hu, h0⟩], rfl⟩
        · refine iteN (by simpa using h0) ?_
          exact ⟨by rw [decide_eq_false (p := _ ∧ _) fun q => h0 q.2], rfl⟩
      · refine iteN (by simpa using hu) ?_
        exact ⟨by rw [decide_eq_false (p := _ ∧ _) fun q => hu q.1], rfl⟩
    rintro c H₅ ⟨rfl, rfl⟩
    by_cases hc1 : u = 1 ∧ 0 < i
    · rw [decide_eq_true hc1]
      refine iteT ?_
      refine Sx_cons ?_
      repeat walk_at "stp"
      refine Ev_fn L 22 (by decide +kernel) (by decide +kernel) ?_
      repeat walk_at "stp"
      refine (tap_built (n := n) L b4 (bud1 hT0) (by decide) (by decide) fun f H₆ f1 f2 b6 => ?_).le (Nat.le_add_right (n + 1) 2)
      repeat walk_at "stp"
      refine ⟨sz2, ?_⟩
      rw [int_q]
      repeat walk_at "stp"
      refine Sx_cons (St_Expr (Ev_append ?_))
      repeat walk_at "stp"
      refine ⟨by rw [b6.mat.out]; rfl, ?_⟩
      refine Ev_ListComp (by decide +kernel) (It_list ?_)
      repeat walk_at "stp"
      have hlen := b6.len
      obtain ⟨r, hr, hra, hHr⟩ := b6.mat.getD (i := i - 1) (by omega)
      refine op_item_list b6.mat.out (by omega) (by omega) (refs_at hr (by omega)) ?_
      repeat walk_at "stp"
      have hrow := getD_row (M := M) (i := i - 1) (by omega)
      have hrl : (M.getD (i - 1) []).length = w := rect_getD b6.rect (by omega)
      have hbits := b6.bits _ _ hrow
      generalize M.getD (i - 1) [] = row at hHr hrl hbits
      have hfb : SmQ 2 ((f - 2 : Int) : Rat) := ⟨by rw [Rat.num_intCast]; unfold Sm; omega, by rw [Rat.den_intCast]; unfold Sm; omega⟩
      generalize ((f - 2 : Int) : Rat) = fq at hfb
      refine ⟨r, _, rfl, hHr, row.length, Cp_map (fun k H' acc => H' = H₆ ∧ acc = ((row.take k).map (fq * ·)).map qv) row.length ?_ ?_ ⟨rfl, by simp⟩⟩
      · rintro k H' acc hk ⟨rfl, rfl⟩
        have hk100 : k ≤ 100 := by omega
        refine ⟨qv row[k], by rw [item_lst hHr, List.getElem?_map, List.getElem?_eq_getElem hk]; rfl, fun Ψ' kE => ?_⟩
        refine Ev_fn L 25 (by decide +kernel) (by decide +kernel) ?_
        repeat walk_at "stp"
        refine (by_ok (n := n + 1) L hfb (hbits _ (List.getElem_mem hk)) (by have := bb_le (i - 1); omega) ?_)
        repeat walk_at "stp"
        refine kE _ _ ?_
        refine ⟨small_take (fq * ·) qv row hk100, rfl, ?_⟩
        rw [← List.take_append_getElem hk]; simp only [List.map_append, List.map_cons, List.map_nil]
      · rintro H' acc ⟨rfl, rfl⟩
        refine ⟨ok_lst hHr, by rw [item_lst hHr]; exact List.getElem?_eq_none (by simp), fun c hc => ?_⟩
        rw [List.take_length]
        have b7 := b6.grow (Grow.upd (vs := (row.map (fq * ·)).map qv) hc)
        have hca : c ≠ a := fun z => by subst z; rw [b6.mat.out] at hc; cases hc
        refine ⟨_, b7.mat.out, small_len V.ref rs (b7.mat.len.trans b7.len) hi100, rfl, ?_⟩
        have b8 := b7.push (row := row.map (fq * ·)) upd_same hca (by simp [hrl]) (fun x hx => by
          obtain ⟨y, hy, rfl⟩ := List.mem_map.mp hx
          refine (hfb.mul (hbits y hy)).le ?_
          match i, hc1.2, hi with
          | 1, _, _ => decide
          | 2, _, _ => decide
          | i + 3, _, hi => omega)
        repeat walk_at "stp"
        refine (kN _ _ ?_).1
        exact ⟨⟨_, _, b8.le (turn2 i)⟩, by walk_at "mv", by walk_at "mv", by walk_at "mv"⟩
    · rw [decide_eq_false hc1]
      refine iteF ?_
      refine Sx_cons (St_If (Tv_mono (Φ := fun c H' => c = decide (u = 2 ∧ 1 < i) ∧ H' = H₅) ?_ ?_))
      · repeat walk_at "stp"
        by_cases hu : u = 2
        · refine iteP (by simpa using hu) ?_
          repeat walk_at "stp"
          by_cases h0 : 1 < i
          · refine iteP (by simp; omega) ?_
            repeat walk_at "stp"
            exact ⟨by rw [decide_eq_true (p := _ ∧ _) ⟨hu, h0⟩], rfl⟩
          · refine iteN (by simp; omega) ?_
            exact ⟨by rw [decide_eq_false (p := _ ∧ _) fun q => h0 q.2], rfl⟩
        · refine iteN (by simpa using hu) ?_
          exact ⟨by rw [decide_eq_false (p := _ ∧ _) fun q => hu q.1], rfl⟩
      rintro c H₆ ⟨rfl, rfl⟩
      by_cases hc2 : u = 2 ∧ 1 < i
      · rw [decide_eq_true hc2]
        refine iteT ?_
        have hi2 : i = 2 := by omega
        refine Sx_cons (St_Expr (Ev_append ?_))
        repeat walk_at "stp"
        refine ⟨by rw [b4.mat.out]; rfl, ?_⟩
        refine Ev_ListComp (by decide +kernel) (It_upto L (by decide +kernel) ?_)
        repeat walk_at "stp"
        refine ⟨by omega, w, ?_⟩
        have hlen := b4.len
        obtain ⟨r0, hr0, _, hHr0⟩ := b4.mat.getD (i := 0) (by omega)
        obtain ⟨r1, hr1, _, hHr1⟩ := b4.mat.getD (i := 1) (by omega)
        have hrow0 := getD_row (M := M) (i := 0) (by omega)
        have hrow1 := getD_row (M := M) (i := 1) (by omega)
        have hrl0 : (M.getD 0 []).length = w := rect_getD b4.rect (by omega)
        have hrl1 : (M.getD 1 []).length = w := rect_getD b4.rect (by omega)
        have hbits0 := b4.bits _ _ hrow0
        have hbits1 := b4.bits _ _ hrow1
        generalize M.getD 0 [] = row0 at hHr0 hrl0 hbits0
        generalize M.getD 1 [] = row1 at hHr1 hrl1 hbits1
        refine Cp_map (fun k H' acc => H' = H₆ ∧ acc = ((List.range k).map fun j => row0.getD j 0 + row1.getD j 0).map qv) w ?_ ?_ ⟨rfl, by simp⟩
        · rintro k H' acc hk ⟨rfl, rfl⟩
          have hk100 : k ≤ 100 := Nat.le_trans (Nat.le_of_lt hk) (Nat.le_trans hw4 (by decide))
          refine ⟨_, item_upto hk, fun Ψ' kE => ?_⟩
          refine Ev_fn L 24 (by decide +kernel) (by decide +kernel) ?_
          repeat walk_at "stp"
          refine op_item_list b4.mat.out (by decide) (by decide) (refs_at hr0 rfl) ?_
          repeat walk_at "stp"
          refine op_at hHr0 (by omega) (qvs_getDN (i := k) (by omega)) ?_
          repeat walk_at "stp"
          refine op_item_list b4.mat.out (by decide) (by decide) (refs_at hr1 rfl) ?_
          repeat walk_at "stp"
          refine op_at hHr1 (by omega) (qvs_getDN (i := k) (by omega)) ?_
          repeat walk_at "stp"
          refine (plus_ok (n := n + 1) L (hbits0 _ (mem_getD (by omega))) (hbits1 _ (mem_getD (by omega))) (by decide) ?_)
          repeat walk_at "stp"
          refine kE _ _ ?_
          refine ⟨small_range (fun j => row0.getD j 0 + row1.getD j 0) qv hk100, rfl, ?_⟩
          rw [List.range_succ]; simp only [List.map_append, List.map_cons, List.map_nil]
        · rintro H' acc ⟨rfl, rfl⟩
          refine ⟨trivial, item_rng_end, fun c hc => ?_⟩
          have b7 := b4.grow (Grow.upd (vs := ((List.range w).map fun j => row0.getD j 0 + row1.getD j 0).map qv) hc)
          have hca : c ≠ a := fun z => by subst z; rw [b4.mat.out] at hc; cases hc
          refine ⟨_, b7.mat.out, small_len V.ref rs (b7.mat.len.trans b7.len) hi100, rfl, ?_⟩
          have b8 := b7.push (row := (List.range w).map fun j => row0.getD j 0 + row1.getD j 0) upd_same hca (by simp) (fun x hx => by
            obtain ⟨j, hj, rfl⟩ := List.mem_map.mp hx
            have hjw := List.mem_range.mp hj
            refine ((hbits0 _ (mem_getD (by omega : j < row0.length))).add (hbits1 _ (mem_getD (by omega : j < row1.length)))).le ?_
            rw [hi2]; decide)
          repeat walk_at "stp"
          refine (kN _ _ ?_).1
          exact ⟨⟨_, _, b8.le (turn1 i)⟩, by walk_at "mv", by walk_at "mv", by walk_at "mv"⟩
      · rw [decide_eq_false hc2]
        refine iteF ?_
        refine Sx_cons (St_Expr (Ev_append ?_))
        repeat walk_at "stp"
        refine ⟨by rw [b4.mat.out]; rfl, ?_⟩
        refine Ev_ListComp (by decide +kernel) (It_upto L (by decide +kernel) ?_)
        repeat walk_at "stp"
        refine ⟨by omega, w, ?_⟩
        refine Cp_map (fun k H' acc => Built H' g l ns a w i (10 + 10 * i + 1 + 2 * k) rs M ∧ ∃ row : List Rat, acc = row.map qv ∧ row.length = k ∧ ∀ x ∈ row, SmQ 3 x) w ?_ ?_ ⟨b4.le (by omega), [], rfl, rfl, fun x hx => by cases hx⟩
        · rintro k H' acc hk ⟨bk, row, rfl, hl, hb⟩
          have hk100 : k ≤ 100 := Nat.le_trans (Nat.le_of_lt hk) (Nat.le_trans hw4 (by decide))
          refine ⟨_, item_upto hk, fun Ψ' kE => ?_⟩
          refine Ev_fn L 23 (by decide +kernel) (by decide +kernel) ?_
          repeat walk_at "stp"
          refine Ev_fn L 22 (by decide +kernel) (by decide +kernel) ?_
          repeat walk_at "stp"
          refine (tap_built (n := n) L bk (budk hT0 hk hw4) (by decide) (by decide) fun p H₇ p1 p2 b7 => ?_).le (Nat.le_add_right (n + 1) 2)
          repeat walk_at "stp"
          refine Ev_fn L 22 (by decide +kernel) (by decide +kernel) ?_
          repeat walk_at "stp"
          refine (tap_built (n := n) L b7 (budk1 hT0 hk hw4) (by decide) (by decide) fun q H₈ q1 q2 b8 => ?_).le (Nat.le_add_right (n + 1) 2)
          repeat walk_at "stp"
          refine (lean_ok (n := n + 2) L (by omega) (Sm.le (k := 3) (abs_small (by omega) (by omega) (by decide)) (by decide)) ?_)
          refine kE _ _ ?_
          refine ⟨small_len qv row hl hk100, b8.le (turnk _ k), row ++ [Rat.divInt (p - 4) (1 + q)], by simp, by simp [hl], fun x hx => ?_⟩
          rcases List.mem_append.mp hx with h' | h'
          · exact hb x h'
          · rw [List.mem_singleton.mp h']
            exact SmQ.divInt (by omega) (abs_small (by omega) (by omega) (by decide)) (abs_small (by omega) (by omega) (by decide))
        · rintro H' acc ⟨bk, row, rfl, hl, hb⟩
          refine ⟨trivial, item_rng_end, fun c hc => ?_⟩
          have b7 := bk.grow (Grow.upd (vs := row.map qv) hc)
          have hca : c ≠ a := fun z => by subst z; rw [bk.mat.out] at hc; cases hc
          refine ⟨_, b7.mat.out, small_len V.ref rs (b7.mat.len.trans b7.len) hi100, rfl, ?_⟩
          have b8 := b7.push (row := row) upd_same hca hl (fun x hx => (hb x hx).le (by unfold bb; split <;> omega))
          repeat walk_at "stp"
          refine (kN _ _ ?_).1
          exact ⟨⟨_, _, b8.le (turnw i hw4)⟩, by walk_at "mv", by walk_at "mv", by walk_at "mv"⟩
  · rintro ρ' H' ⟨⟨rs, M, b⟩, g1, g2, g3⟩
    refine ⟨trivial, item_rng_end, ?_⟩
    have hlen := b.len
    have hTm : 10 + 10 * (m : Int) ≤ 200 := by omega
    have fin : ∀ (ρ : AL) (H : AH) (M : List (List Rat)), MatAt H a rs M → M.length = m → Rect M w → SmM 9 M → ρ "lines_of" = some (.ref a) → ρ "width" = some (.int (w : Nat)) →
        Sx X (fnSc 30) (n + 3) ((fnBody 30).drop 4) ρ H fun fl _ H' => Φ fl.val H' := by
      intro ρ H M hmat hl hrect hsm g2 g3
      repeat walk_at "blk"
      exact ⟨sz2, h a rs M w H hmat hrect (by omega) (by omega) hw0 hw4 hsm⟩
    have hsm : SmM 9 M := fun row hrow x hx => by
      obtain ⟨j, hj⟩ := List.getElem?_of_mem hrow
      exact (b.bits j row hj x hx).le (bb_le j)
    refine Sx_cons ?_
    repeat walk_at "stp"
    refine Ev_fn L 22 (by decide +kernel) (by decide +kernel) ?_
    repeat walk_at "stp"
    refine (tap_built (n := n) L b (bud0 hTm) (by decide) (by decide) fun u H₄ u1 u2 b4 => ?_).le (Nat.le_add_right (n + 1) 2)
    repeat walk_at "stp"
    by_cases hu : u = 1
    · refine iteP (by simpa using hu) ?_
      refine Sx_cons ?_
      repeat walk_at "stp"
      refine Ev_fn L 22 (by decide +kernel) (by decide +kernel) ?_
      repeat walk_at "stp"
      refine (tap_built (n := n) L b4 (bud1 hTm) (by omega) (by omega) fun c H₅ c1 c2 b5 => ?_).le (Nat.le_add_right (n + 1) 2)
      repeat walk_at "stp"
      refine Sx_cons (St_For (by decide +kernel) (It_list ?_))
      repeat walk_at "stp"
      have hrl : rs.length = m := by rw [b5.mat.len, hlen]
      refine ⟨a, _, rfl, b5.mat.out, rs.length, ?_⟩
      refine Lp_inv (fun i ρ' H' => (∃ M', MatAt H' a rs M' ∧ M'.length = m ∧ Rect M' w ∧ SmM 9 M') ∧ ρ' "lines_of" = some (.ref a) ∧ ρ' "width" = some (.int (w : Nat)) ∧ ρ' "blank" = some (.int c)) rs.length ?_ ?_ ?_
      · rintro i ρ₂ H₆ hi ⟨⟨M', m1, m2, m3, m4⟩, e1, e2, e3⟩
        obtain ⟨r, hr, hra, hHr⟩ := m1.getD (i := i) (by omega)
        refine ⟨.ref r, by rw [item_lst m1.out, List.getElem?_map, hr]; rfl, fun Ψ kN kR => ?_⟩
        have hrowl : (M'.getD i []).length = w := rect_getD m3 (by omega)
        refine Sx_cons (St_Assign (Ev_Tuple ?_))
        repeat walk_at "stp"
        refine ⟨sz2, ?_⟩
        repeat walk_at "stp"
        refine ⟨r, _, _, rfl, rfl, hHr, c1, by rw [List.length_map, hrowl]; exact c2, by omega, ?_⟩
        repeat walk_at "stp"
        have hset : ∀ row ∈ (M'.mapIdx fun j row => if rs[j]? = some r then row.set c.toNat 0 else row), ∃ row' ∈ M', row = row' ∨ row = row'.set c.toNat 0 := fun row hrow => by
          obtain ⟨j, hj⟩ := List.getElem?_of_mem hrow
          rw [List.getElem?_mapIdx] at hj
          cases q : M'[j]? with
          | none => rw [q] at hj; cases hj
          | some row' =>
            rw [q, Option.map_some] at hj
            refine ⟨row', List.mem_of_getElem? q, ?_⟩
            split at hj
            · exact .inr (Option.some.inj hj).symm
            · exact .inl (Option.some.inj hj).symm
        refine (kN _ _ ?_).1
        refine ⟨⟨_, m1.blank hra hHr c.toNat, by rw [List.length_mapIdx]; exact m2, fun row hrow => ?_, fun row hrow x hx => ?_⟩, by walk_at "mv", by walk_at "mv", by walk_at "mv"⟩
        · obtain ⟨row', h1, h2⟩ := hset row hrow
          rcases h2 with rfl | rfl
          · exact m3 _ h1
          · rw [List.length_set]; exact m3 _ h1
        · obtain ⟨row', h1, h2⟩ := hset row hrow
          rcases h2 with rfl | rfl
          · exact m4 _ h1 x hx
          · rcases List.mem_or_eq_of_mem_set hx with q | q
            · exact m4 _ h1 x q
            · rw [q]; exact SmQ.zero (by decide)
      · rintro ρ₂ H₆ ⟨⟨M', m1, m2, m3, m4⟩, e1, e2, e3⟩
        refine ⟨ok_lst m1.out, by rw [item_lst m1.out]; exact List.getElem?_eq_none (by simp), ?_⟩
        repeat walk_at "stp"
        exact fin _ _ M' m1 m2 m3 m4 (by walk_at "mv") (by walk_at "mv")
      · exact ⟨⟨M, b5.mat, hlen, b5.rect, hsm⟩, by walk_at "mv", by walk_at "mv", by walk_at "mv"⟩
    · refine iteN (by simpa using hu) ?_
      repeat walk_at "stp"
      exact fin _ _ M b4.mat hlen b4.rect hsm (by walk_at "mv") (by walk_at "mv")
  · exact ⟨⟨[], [], b1.le (by omega)⟩, by walk_at "mv", by walk_at "mv", by walk_at "mv"⟩
end
section
variable {X : X0} {fa : Nat → Addr} {sc : Scope} {n : Nat} {ρ : AL} {H : AH} {Φ : V → AH → Prop}
/-- a cut of a value that is let go behind it -/
theorem Ev_uptoT {value up : Expr} {p pos : Pos} (h : Ev X sc n value ρ H fun o H₁ => Ev X sc n up ρ H₁ fun u H₂ => ∃ a vs i, o = .ref a ∧ u = .int i ∧ 0 ≤ i ∧ H₂ a = some vs ∧ vs.length ≤ sizeLine ∧ ∀ c, H₂ c = none → Φ (.ref c) (upd H₂ c (vs.take i.toNat))) :
    Ev X sc n (.Subscript value (.Slice none (some up) none p) pos) ρ H Φ := by
  intro env B A s Q E he hA hR hF k
  refine Subscript_ (h env B A s _ E he hA hR hF fun o co H₁ h₁ tk₁ p₁ v₁ R₁ F₁ t₁ => wpAny_Slice ?_)
  rw [evalPart_none]
  refine wpAny_pure ?_
  rw [evalPart_some]
  refine p₁ env B A _ _ E he hA R₁ F₁ fun u cu H₂ h₂ tk₂ p₂ v₂ R₂ F₂ t₂ => ?_
  obtain ⟨a, vs, i, rfl, rfl, h0, hl, hsz, p⟩ := p₂
  obtain rfl := v₁.refInv
  obtain ⟨t, rfl⟩ := v₂.intInv
  obtain ⟨xs, m, hL, hx⟩ := R₂.lst hl
  have hlen := hx.size
  refine wpAny_pure ?_
  refine tail_any (hL.isList.push _).typeIs slot_list_getitem.lookup (wpAny_getItem_list_slice (hL.isList.push _) (Heap.IsSliceOf.new ..) .none (.int i t) .none (by simp) ?_ (by rw [← hlen]; exact hsz)) rfl
  rw [Heap.size_push]
  have x := Ext.trans (Ext.push h₂ { cls := .type "slice", data := .fields #[.none, .int i t, .none] }) (Ext.push _ { cls := .type "list", data := .seq (slicePick xs none (some i) none) })
  obtain ⟨j, rfl⟩ := Int.eq_ofNat_of_zero_le h0
  obtain ⟨hn, R⟩ := R₂.newAt x (D := h₂.objs.size + 1) (Nat.le_succ _) (m := 0) (xs := slicePick xs none (some (j : Int)) none) (vs := vs.take j) (by
    have := Heap.get?_push_size (h₂.push { cls := .type "slice", data := .fields #[.none, .int (j : Int) t, .none] }) (o := { cls := .type "list", data := .seq (slicePick xs none (some (j : Int)) none) }) rfl
    rw [Heap.size_push] at this; exact this) (by
    have e : (slicePick xs none (some (j : Int)) none).toList = xs.toList.take j := by rw [slicePick_upto']
    rw [e]; exact (hx.mono (Ext.tk x)).take j)
  exact k _ _ _ _ tk₂ (p _ hn) (.ref _) R (F₂.ext R₂ x) (t₁.trans (t₂.trans (Ext.tk x)))
end

section
variable {X : X0} {fa : Nat → Addr} {n : Nat} {H : AH} {Φ : V → AH → Prop}

/-- the script, a list of the world's own, and a new list -/
theorem op_addraw {l b : Addr} {items : Array Value} {vs ws : List V} (hl : X.h₀.IsList l items) (hx : VRs X.h₀ vs items.toList) (hb : H b = some ws) (hfit : vs.length + ws.length ≤ sizeLine) (h : ∀ c, H c = none → Φ (.ref c) (upd H c (vs ++ ws))) :
    Op X n (bin .Add) [.raw (.ref l), .ref b] H Φ := by
  intro B A s Q E cvs hA hR hv k
  obtain ⟨_, _, rfl, ha', hb'⟩ := hv.two
  obtain rfl := ha'.rawInv
  obtain rfl := hb'.refInv
  obtain ⟨⟨cls, dd, data, sl⟩, ho, hc, m, hd⟩ := hl
  simp only at hc hd
  subst hc hd
  have ho' := hR.ext₀ _ _ ho
  have hx' := hx.mono (Ext.tk hR.ext₀)
  obtain ⟨ys, m', hL', hy⟩ := hR.lst hb
  have x := Ext.push s.heap { cls := .type "list", data := .seq (items ++ ys) }
  refine concat_meets ⟨_, ho', rfl⟩ ⟨_, hL', rfl⟩ noFill_list_add seq_list_add PySem.F.slot_list_add PySem.F.entry_list_add (PySem.F.args_list_add_2 _ _) (list_addW l b items ys m m' dd none sl #[] (by rw [← hx.size, ← hy.size]; exact hfit)) ⟨ho', hL', ?_⟩
  obtain ⟨hn, R⟩ := hR.newAt x (Nat.le_refl _) (xs := items ++ ys) (m := 0) (vs := vs ++ ws) (Heap.get?_push_size _ rfl) (by rw [Array.toList_append]; exact VRs.append (hx'.mono (Ext.tk x)) (hy.mono (Ext.tk x)))
  exact k _ _ _ _ s.toks (h _ hn) (.ref _) R (Ext.tk x)

theorem RD.pair {H : AH} {a p : Addr} {rs : List Addr} {M : List (List Rat)} {cs : List Nat} (m : MatAt H a rs M) (hp : H p = some (Mine.ivs cs)) : RD H (.tup [.ref a, .ref p]) (.tuple [matD M, ivD cs]) :=
  .tup (.cons m.rd (.cons (RD.ivs hp) .nil))

/-- two rows of two -/
theorem mat2 {H : AH} {r0 r1 a : Addr} {x y : List Rat} (h0 : H r0 = some (x.map qv)) (h1 : H r1 = some (y.map qv)) (ha : H a = none) : MatAt (upd H a [.ref r0, .ref r1]) a [r0, r1] [x, y] where
  len := rfl
  out := upd_same
  row i r e := by
    match i, e with
    | 0, e =>
      simp at e; subst e
      exact ⟨x, rfl, by rw [upd_ne (fun z => by subst z; rw [ha] at h0; cases h0)]; exact h0⟩
    | 1, e =>
      simp at e; subst e
      exact ⟨y, rfl, by rw [upd_ne (fun z => by subst z; rw [ha] at h1; cases h1)]; exact h1⟩
    | i + 2, e => simp at e
  ne r hr := by
    intro z; subst z
    simp at hr
    rcases hr with rfl | rfl
    · rw [ha] at h0; cases h0
    · rw [ha] at h1; cases h1

theorem MatAt.reverse {H : AH} {a b : Addr} {rs : List Addr} {M : List (List Rat)} (m : MatAt H a rs M) (hb : H b = none) : MatAt (upd H b (rs.map V.ref).reverse) b rs.reverse M.reverse where
  len := by simp [m.len]
  out := by rw [upd_same, List.map_reverse]
  row i r e := by
    have hi : i < rs.length := by have := (List.getElem?_eq_some_iff.mp e).1; simpa using this
    rw [List.getElem?_reverse hi] at e
    obtain ⟨row, h1, h2⟩ := m.row _ r e
    refine ⟨row, ?_, Grow.upd hb _ _ h2⟩
    rw [List.getElem?_reverse (by rw [← m.len]; exact hi), ← m.len]; exact h1
  ne r hr z := by
    subst z
    obtain ⟨j, hj⟩ := List.getElem?_of_mem (List.mem_reverse.mp hr)
    obtain ⟨row, _, h2⟩ := m.row j r hj
    rw [hb] at h2; cases h2

/-- what is left behind the answers' last loop -/
theorem law_five (L : Env1 X fa) {ρ : AL} {a r p : Addr} {rs qs : List Addr} {M R : List (List Rat)} {cs : List Nat} {w : Nat} (m : MatAt H a rs M) (q : MatAt H r qs R) (hp : H p = some (ivs cs)) (A : Answers M R cs w)
    (hl : 0 < M.length) (hl3 : M.length ≤ 3) (hw : 0 < w) (hw4 : w ≤ 4) (hs : SmM 9 M) (he : echUpto M w = (R, cs))
    (h1 : ρ "lines_of" = some (.ref a)) (h2 : ρ "rows" = some (.ref r)) (h3 : ρ "pivots" = some (.ref p)) :
    Sx X (fnSc 31) (n + 8) ((fnBody 31).drop 8) ρ H fun fl _ _ => fl = .ret (.bool true) := by
  have hsR : SmM 700 R := by
    have := bits_all A.rectM hs hl3 w (Nat.le_refl _)
    rw [he] at this; exact this
  have hlen := A.len
  have hsh := A.ech.short
  refine Sx_cons (St_Return (Ev_and ?_))
  repeat walk_at "stp"
  refine Ev_fn L 19 (by decide +kernel) (by decide +kernel) ?_
  repeat walk_at "stp"
  refine (ech_ok (n := n + 1) (K := 700) L q A.rectR (by omega) (by omega) (by omega) (fun c hc => by rw [ech_fix_rows A.ech A.rectR hc]; exact hsR) (by decide) (by decide) fun r' qs' p' H₁ g₁ q' hp' => ?_)
  rw [ech_fix_all A.ech A.rectR] at q' hp'
  repeat walk_at "stp"
  refine ⟨sz2, ?_⟩
  refine op_eq_same (RD.pair q' hp') (RD.pair (q.grow g₁) (g₁ _ _ hp)) (pairD_ok _ _) (by decide) ?_
  repeat walk_at "stp"
  refine Ev_fn L 19 (by decide +kernel) (by decide +kernel) ?_
  refine Es_bare ?_
  refine Ev_listRev L (by decide +kernel) (by decide +kernel) ?_
  repeat walk_at "stp"
  have m₁ := m.grow g₁
  refine ⟨a, _, rfl, m₁.out, by rw [List.length_map, m₁.len]; exact small (by omega), fun b hb => ?_⟩
  have m₂ := m₁.reverse hb
  have g₂ : Grow H (upd H₁ b (rs.map V.ref).reverse) := g₁.trans (Grow.upd hb)
  repeat walk_at "stp"
  generalize upd H₁ b (rs.map V.ref).reverse = H₂ at m₂ g₂
  have hrev : SmM 9 M.reverse := fun row hr => hs row (List.mem_reverse.mp hr)
  refine (ech_ok (n := n + 1) (K := 700) L m₂ (rect_reverse A.rectM) (by rw [List.length_reverse]; exact hl) (by rw [List.length_reverse]; omega) (by omega)
    (bits_all (rect_reverse A.rectM) hrev (by rw [List.length_reverse]; exact hl3)) (by decide) (by decide) fun r₃ qs₃ p₃ H₃ g₃ q₃ hp₃ => ?_)
  rw [ech_reverse A.rectM, he] at q₃ hp₃
  repeat walk_at "stp"
  refine ⟨sz2, ?_⟩
  refine op_eq_same (RD.pair q₃ hp₃) (RD.pair (q.grow (g₂.trans g₃)) ((g₂.trans g₃) _ _ hp)) (pairD_ok _ _) (by decide) ?_
  rfl

theorem law_four (L : Env1 X fa) {ρ : AL} {a r p : Addr} {rs qs : List Addr} {M R : List (List Rat)} {cs : List Nat} {w : Nat} (m : MatAt H a rs M) (q : MatAt H r qs R) (hp : H p = some (ivs cs)) (A : Answers M R cs w)
    (hl : 0 < M.length) (hl3 : M.length ≤ 3) (hw : 0 < w) (hw4 : w ≤ 4) (hs : SmM 9 M) (he : echUpto M w = (R, cs))
    (h1 : ρ "lines_of" = some (.ref a)) (h2 : ρ "rows" = some (.ref r)) (h3 : ρ "pivots" = some (.ref p)) (h4 : ρ "width" = some (.int (w : Nat))) :
    Sx X (fnSc 31) (n + 8) ((fnBody 31).drop 6) ρ H fun fl _ _ => fl = .ret (.bool true) := by
  have hsR : SmM 700 R := by
    have := bits_all A.rectM hs hl3 w (Nat.le_refl _)
    rw [he] at this; exact this
  have hlen := A.len
  have hsh := A.ech.short
  have hcl : cs.length ≤ 3 := by omega
  refine Sx_cons (St_If (Tv_or ?_))
  repeat walk_at "stp"
  refine Ev_fn L 29 (by decide +kernel) (by decide +kernel) ?_
  repeat walk_at "stp"
  refine (cols_ok (n := n + 5) (B := 700) (K := 9) L m q hp A.rectM A.rectR (by omega) hlen (by omega) hsh A.cw hs hsR (by omega) A.unit A.line A.zero fun H₁ g₁ => ?_)
  repeat walk_at "stp"
  refine iteF ?_
  repeat walk_at "stp"
  refine Ev_fn L 28 (by decide +kernel) (by decide +kernel) ?_
  repeat walk_at "stp"
  refine (free_ok (n := n + 1) (K := 9) L (m.grow g₁) (g₁ _ _ hp) A.rectM (by omega) hs (by decide) hl3 hcl A.cw (fun k hk => ?_) (A.free hl3) fun H₂ g₂ => ?_)
  · exact (by decide : ∀ k, k < 4 → sqBits 9 3 k ≤ 4000) k (Nat.lt_succ_of_le (Nat.le_trans hk hcl))
  repeat walk_at "stp"
  refine iteF ?_
  repeat walk_at "stp"
  have m₂ := m.grow (g₁.trans g₂)
  have q₂ := q.grow (g₁.trans g₂)
  have hp₂ := (g₁.trans g₂) _ _ hp
  -- each line is the sum
  refine Sx_cons (St_For (by decide +kernel) (It_list ?_))
  repeat walk_at "stp"
  refine ⟨a, _, rfl, m₂.out, M.length, ?_⟩
  refine Lp_inv (fun i ρ' H' => Grow H₂ H' ∧ ρ' "lines_of" = some (.ref a) ∧ ρ' "rows" = some (.ref r) ∧ ρ' "pivots" = some (.ref p) ∧ ρ' "width" = some (.int (w : Nat))) M.length ?_ ?_ ?_
  · rintro i ρ' H' hi ⟨g, e1, e2, e3, e4⟩
    obtain ⟨la, hla, _, hHl⟩ := (m₂.grow g).getD hi
    refine ⟨.ref la, by rw [item_lst (g _ _ m₂.out), List.getElem?_map, hla]; rfl, fun Ψ kN kR => ?_⟩
    have hmem := List.mem_of_getElem? (getD_row hi)
    have hll : (M.getD i []).length = w := rect_getD A.rectM hi
    have hsum := A.sum _ hmem
    have hsl := hs _ hmem
    generalize M.getD i [] = line at hHl hll hsum hsl
    refine Sx_cons (St_If (Tv_Compare ?_))
    refine Ev_fn L 26 (by decide +kernel) (by decide +kernel) ?_
    refine Es_bare ?_
    refine Ev_ListComp (by decide +kernel) (It_list ?_)
    repeat walk_at "stp"
    refine ⟨p, _, rfl, g _ _ hp₂, cs.length, Cp_map (fun k H₁ acc => H₁ = H' ∧ acc = ((cs.take k).map fun c => line.getD c 0).map qv) cs.length ?_ ?_ ⟨rfl, rfl⟩⟩
    · rintro k H₁ acc hk ⟨rfl, rfl⟩
      refine ⟨.int (cs[k] : Nat), by
        rw [item_lst (g _ _ hp₂)]; unfold ivs
        rw [List.getElem?_map, List.getElem?_map, List.getElem?_eq_getElem hk]; rfl, fun Ψ' kE => ?_⟩
      have hcw := A.cw _ (List.getElem_mem hk)
      repeat walk_at "stp"
      refine op_at hHl (by omega) (qvs_getDN (i := cs[k]) (by omega)) ?_
      refine kE _ _ ?_
      refine ⟨small (by simp; omega), rfl, ?_⟩
      rw [← List.take_append_getElem hk]; simp only [List.map_append, List.map_cons, List.map_nil]
    · rintro H₁ acc ⟨rfl, rfl⟩
      refine ⟨ok_lst (g _ _ hp₂), by rw [item_lst (g _ _ hp₂)]; exact List.getElem?_eq_none (by rw [ivs_length]; exact Nat.le_refl _), fun f hf => ?_⟩
      rw [List.take_length]
      have gf := g.trans (Grow.upd (vs := (cs.map fun c => line.getD c 0).map qv) hf)
      have hfl := Grow.upd (vs := (cs.map fun c => line.getD c 0).map qv) hf _ _ hHl
      have hff : upd H₁ f ((cs.map fun c => line.getD c 0).map qv) f = some ((cs.map fun c => line.getD c 0).map qv) := upd_same
      generalize upd H₁ f ((cs.map fun c => line.getD c 0).map qv) = H₃ at gf hfl hff
      repeat walk_at "stp"
      have hfs : (cs.map fun c => line.getD c 0).length = cs.length := List.length_map _
      have sb : ∀ k, k < 4 → sumBits 9 700 k + 9 + 700 ≤ 9000 := by decide
      refine (sum_ok (n := n + 5) (B := 9) (K := 700) L hff (q₂.grow gf) A.rectR (by omega) (by omega) (by omega) (fun x hx => ?_) hsR ?_ (fun k hk => ?_) fun b H₄ g₄ hb => ?_)
      · obtain ⟨c, hc, rfl⟩ := List.mem_map.mp hx
        exact hsl _ (mem_getD (by rw [hll]; exact A.cw c hc))
      · rw [hfs]; exact sb _ (Nat.lt_succ_of_le hcl)
      · exact sb k (Nat.lt_succ_of_le (Nat.le_trans hk (hfs ▸ hcl)))
      rw [hfs, hsum] at hb
      repeat walk_at "stp"
      refine op_ne_same (RD.row hb) (RD.row (g₄ _ _ hfl)) (rowD_ok _) (by decide) ?_
      repeat walk_at "stp"
      refine (kN _ _ ?_).1
      exact ⟨gf.trans g₄, by walk_at "mv", by walk_at "mv", by walk_at "mv", by walk_at "mv"⟩
  · rintro ρ' H' ⟨g, e1, e2, e3, e4⟩
    refine ⟨ok_lst (g _ _ m₂.out), by rw [item_lst (g _ _ m₂.out)]; exact List.getElem?_eq_none (by simp [m₂.len]), ?_⟩
    exact law_five L (m₂.grow g) (q₂.grow g) (g _ _ hp₂) A hl hl3 hw hw4 hs he e1 e2 e3
  · exact ⟨Grow.refl _, by walk_at "mv", by walk_at "mv", by walk_at "mv", by walk_at "mv"⟩

theorem law_three (L : Env1 X fa) {ρ : AL} {a b : Addr} {rs ks : List Addr} {M : List (List Rat)} {w : Nat} (m : MatAt H a rs M) (m' : MatAt H b ks M) (hrect : Rect M w) (hl : 0 < M.length) (hl3 : M.length ≤ 3) (hw : 0 < w) (hw4 : w ≤ 4) (hs : SmM 9 M)
    (h1 : ρ "lines_of" = some (.ref a)) (h2 : ρ "kept" = some (.ref b)) (h4 : ρ "width" = some (.int (w : Nat))) :
    Sx X (fnSc 31) (n + 8) ((fnBody 31).drop 4) ρ H fun fl _ _ => fl = .ret (.bool true) := by
  have bits := bits_all hrect hs hl3
  have A := answers hrect
  refine Sx_cons (St_Assign (Ev_fn L 19 (by decide +kernel) (by decide +kernel) ?_))
  repeat walk_at "stp"
  refine (ech_ok (n := n + 1) (K := 700) L m hrect hl (by omega) (by omega) bits (by decide) (by decide) fun r qs p H₁ g q hp => ?_)
  refine As_Tuple2 ?_
  repeat walk_at "stp"
  generalize hE : echUpto M w = st at A q hp
  obtain ⟨R, cs⟩ := st
  dsimp only at A q hp
  have hlen := A.len
  have hsh := A.ech.short
  have m₁ := m.grow g
  have m₁' := m'.grow g
  -- the four questions
  refine Sx_cons (St_If (Tv_or ?_))
  repeat walk_at "stp"
  refine op_ne_same m₁.rd m₁'.rd (matD_ok M) (by decide) ?_
  repeat walk_at "stp"
  refine Ev_sorted L (by decide +kernel) ?_
  repeat walk_at "stp"
  refine call_sorted (ns := cs.map fun c : Nat => (c : Int)) hp (by rw [List.length_map]; omega) fun ns' hperm hsort b hb => ?_
  rw [A.sorted hperm hsort]
  have gb : Grow H₁ (upd H₁ b (ivs cs)) := Grow.upd hb
  change Ev X (fnSc 31) (n + 8) _ _ (upd H₁ b (ivs cs)) _
  have hb' : upd H₁ b (ivs cs) b = some (ivs cs) := upd_same
  generalize upd H₁ b (ivs cs) = H₂ at gb hb' ⊢
  have m₂ := m₁.grow gb
  have q₂ := q.grow gb
  have hp₂ := gb _ _ hp
  repeat walk_at "stp"
  refine op_ne_same (RD.ivs hb') (RD.ivs hp₂) (ivD_ok cs) (by decide) ?_
  repeat walk_at "stp"
  refine Ev_len L (by decide +kernel) ?_
  repeat walk_at "stp"
  refine call_size q₂.out (by rw [List.length_map, q₂.len]) (by omega) ?_
  repeat walk_at "stp"
  refine Ev_len L (by decide +kernel) ?_
  repeat walk_at "stp"
  refine call_size m₂.out (by rw [List.length_map, m₂.len]) (by omega) ?_
  repeat walk_at "stp"
  have e1 : (((R.length : Nat) : Int) != ((M.length : Nat) : Int)) = false := by rw [hlen]; simp
  rw [e1]
  repeat walk_at "stp"
  refine Ev_fn L 20 (by decide +kernel) (by decide +kernel) ?_
  repeat walk_at "stp"
  refine (rank_ok (n := n) (K := 700) L m₂ hrect hl (by omega) (by omega) bits (by decide) (by decide) fun H₃ g₃ => ?_)
  repeat walk_at "stp"
  refine Ev_len L (by decide +kernel) ?_
  repeat walk_at "stp"
  refine call_size (g₃ _ _ hp₂) (by rw [ivs_length]) (by omega) ?_
  rw [hE]
  repeat walk_at "stp"
  have e2 : (((cs.length : Nat) : Int) != ((cs.length : Nat) : Int)) = false := by simp
  rw [e2]
  repeat walk_at "stp"
  exact law_four L (m₂.grow g₃) (q₂.grow g₃) (g₃ _ _ hp₂) A hl hl3 hw hw4 hs hE (by walk_at "mv") (by walk_at "mv") (by walk_at "mv") (by walk_at "mv")

theorem law_two (L : Env1 X fa) {ρ : AL} {g d : Addr} {cells : List Int} (k : KegAt H g d cells 0 0) (hk : ρ "keg" = some (.ref g)) : Sx X (fnSc 31) (n + 8) ((fnBody 31).drop 2) ρ H fun fl _ _ => fl = .ret (.bool true) := by
  refine Sx_cons (St_Assign (Ev_fn L 30 (by decide +kernel) (by decide +kernel) ?_))
  repeat walk_at "stp"
  refine (matrix_ok (n := n + 4) L k fun a rs M w H₁ m hrect hl hl3 hw hw4 hs => ?_)
  refine As_Tuple2 ?_
  repeat walk_at "stp"
  refine Sx_cons (St_AssignComp (by decide +kernel) (by decide +kernel) (It_list ?_))
  repeat walk_at "stp"
  refine ⟨a, _, rfl, m.out, M.length, Cp_map (fun i H' acc => Grow H₁ H' ∧ ∃ rs' : List Addr, acc = rs'.map V.ref ∧ rs'.length = i ∧
    (∀ (j : Nat) (r : Addr), rs'[j]? = some r → ∃ row : List Rat, M[j]? = some row ∧ H' r = some (row.map qv))) M.length ?_ ?_ ?_⟩
  · rintro i H' acc hi ⟨g, rs', rfl, hlen, hrow⟩
    obtain ⟨row, hM⟩ := row_at hi
    obtain ⟨r, hr, hra, hHr⟩ := m.at_ hM
    refine ⟨.ref r, by rw [item_lst (g _ _ m.out), List.getElem?_map, hr]; rfl, fun Ψ kE => ?_⟩
    refine Ev_list L (by decide +kernel) ?_
    repeat walk_at "stp"
    have hlen' := hrect row (List.mem_of_getElem? hM)
    refine call_list (g _ _ hHr) (by rw [List.length_map]; exact small (by omega)) fun b hb => ?_
    repeat walk_at "stp"
    refine kE _ _ ?_
    refine ⟨by rw [List.length_map]; exact small (by omega), g.trans (Grow.upd hb), rs' ++ [b], by simp, by simp [hlen], fun j r' e => ?_⟩
    rw [List.getElem?_append] at e
    split at e
    · obtain ⟨row', h1, h2⟩ := hrow j r' e
      exact ⟨row', h1, Grow.upd hb _ _ h2⟩
    · have hj := last_ix e
      have hji : j = i := (ix_eq ‹_› hj).trans hlen
      subst hji
      rw [hj] at e; simp at e; subst e
      exact ⟨row, hM, upd_same⟩
  · rintro H' acc ⟨g, rs', rfl, hlen, hrow⟩
    refine ⟨ok_lst (g _ _ m.out), by rw [item_lst (g _ _ m.out)]; exact List.getElem?_eq_none (by simp [m.len]), fun b hb => ?_⟩
    have gb := Grow.upd (vs := rs'.map V.ref) hb
    have m2 : MatAt (upd H' b (rs'.map V.ref)) b rs' M := ⟨hlen, upd_same, fun i r e => by
      obtain ⟨row', h1, h2⟩ := hrow i r e
      exact ⟨row', h1, gb _ _ h2⟩, fun r hr z => by
      subst z
      obtain ⟨j, hj⟩ := List.getElem?_of_mem hr
      obtain ⟨row', _, h2⟩ := hrow j r hj
      rw [hb] at h2; cases h2⟩
    repeat walk_at "stp"
    exact law_three L (m.grow (g.trans gb)) m2 hrect hl hl3 hw hw4 hs (by walk_at "mv") (by walk_at "mv") (by walk_at "mv")
  · exact ⟨Grow.refl _, [], rfl, rfl, fun j r e => by simp at e⟩

set_option maxHeartbeats 4000000 in
theorem law_ok (L : Env1 X fa) {l : Addr} {items : Array Value} {ns : List Int} (hl : X.h₀.IsList l items) (hx : VRs X.h₀ (ns.map .int) items.toList) (h63 : ns.length ≤ 63) :
    Sx X (fnSc 31) (n + 8) (fnBody 31) (put (fun _ => none) "script" (.raw (.ref l))) (fun _ => none) fun fl _ _ => fl = .ret (.bool true) := by
  -- the keg
  refine Sx_cons (St_Assign (Ev_List (Es_bare (Ev_int (Es_bare (Ev_uptoT ?_))))))
  repeat walk_at "stp"
  refine Ev_List ?_
  repeat walk_at "stp"
  refine ⟨by decide, fun z hz => ?_⟩
  refine op_addraw hl hx upd_same (small (by simp; omega)) fun c hc => ?_
  repeat walk_at "stp"
  refine ⟨_, _, _, rfl, rfl, by decide, upd_same, small (by simp; omega), fun d hd => ?_⟩
  repeat walk_at "stp"
  refine ⟨small (by simp), fun g hg => ?_⟩
  have hgd : d ≠ g := fun z => by subst z; rw [upd_same] at hg; cases hg
  have hcut : (List.map V.int ns ++ [V.int 0]).take (40 : Int).toNat = ((ns ++ [0]).take 40).map V.int := by
    rw [List.map_take, List.map_append]; rfl
  have k0 : KegAt (upd (upd (upd (upd (fun _ => none) z [V.int 0]) c (List.map V.int ns ++ [V.int 0])) d ((List.map V.int ns ++ [V.int 0]).take (40 : Int).toNat)) g [V.int 0, V.ref d, V.int 0]) g d ((ns ++ [0]).take 40) 0 0 :=
    ⟨upd_same, by rw [upd_ne hgd, upd_same, hcut], hgd, by rw [List.length_take, List.length_append]; simp; omega, by rw [List.length_take]; omega, by decide, by decide, by decide⟩
  generalize upd (upd (upd (upd (fun _ => none) z [V.int 0]) c (List.map V.int ns ++ [V.int 0])) d ((List.map V.int ns ++ [V.int 0]).take (40 : Int).toNat)) g [V.int 0, V.ref d, V.int 0] = H₁ at k0
  generalize (ns ++ [0]).take 40 = cells at k0
  clear hz hc hd hg hcut
  repeat walk_at "stp"
  -- the first look
  refine Sx_cons (St_If (Tv_Compare ?_))
  refine Ev_fn L 19 (by decide +kernel) (by decide +kernel) ?_
  refine Es_bare ?_
  refine Ev_List ?_
  refine Es_bare ?_
  refine Ev_List ?_
  repeat walk_at "stp"
  refine ⟨sz2, ?_⟩
  repeat walk_at "stp"
  refine ⟨sz2, ?_⟩
  repeat walk_at "stp"
  refine ⟨sz2, fun r0 hr0 => ?_⟩
  refine Es_bare ?_
  refine Ev_List ?_
  repeat walk_at "stp"
  refine ⟨sz2, ?_⟩
  repeat walk_at "stp"
  refine ⟨sz2, ?_⟩
  repeat walk_at "stp"
  refine ⟨sz2, fun r1 hr1 => ?_⟩
  repeat walk_at "stp"
  refine ⟨sz2, fun r2 hr2 => ?_⟩
  repeat walk_at "stp"
  have m0 : MatAt (upd (upd (upd H₁ r0 [qv 1, qv 2]) r1 [qv 2, qv 4]) r2 [.ref r0, .ref r1]) r2 [r0, r1] [[1, 2], [2, 4]] :=
    mat2 (Grow.upd hr1 _ _ upd_same) upd_same hr2
  have k1 : KegAt (upd (upd (upd H₁ r0 [qv 1, qv 2]) r1 [qv 2, qv 4]) r2 [.ref r0, .ref r1]) g d cells 0 0 := k0.grow (((Grow.upd hr0).trans (Grow.upd (vs := [qv 2, qv 4]) hr1)).trans (Grow.upd (vs := [.ref r0, .ref r1]) hr2))
  change Calls X (n + 8) (.ref (fa 19)) [.ref r2] (upd (upd (upd H₁ r0 [qv 1, qv 2]) r1 [qv 2, qv 4]) r2 [.ref r0, .ref r1]) _
  generalize upd (upd (upd H₁ r0 [qv 1, qv 2]) r1 [qv 2, qv 4]) r2 [.ref r0, .ref r1] = H₂ at m0 k1
  clear hr0 hr1 hr2 k0
  have rect0 : Rect [[1, 2], [2, 4]] 2 := by intro row hr; simp at hr; rcases hr with rfl | rfl <;> rfl
  have sm0 : SmM 9 [[1, 2], [2, 4]] := by
    intro row hr x hx
    simp at hr
    rcases hr with rfl | rfl <;> · simp at hx; rcases hx with rfl | rfl <;> exact ⟨by unfold Sm; decide +kernel, by unfold Sm; decide +kernel⟩
  refine (ech_ok (n := n + 1) (w := 2) (K := 700) L m0 rect0 (by decide) (by decide) (by decide) (fun c hc => bits_all rect0 sm0 (by decide) c hc) (by decide) (by decide) fun r rs' p H₃ g1 m1 hp1 => ?_)
  rw [first_look] at m1 hp1
  have k2 := k1.grow g1
  clear m0 k1 g1
  refine Ev_Tuple ?_
  refine Es_bare ?_
  refine Ev_List ?_
  refine Es_bare ?_
  refine Ev_List ?_
  repeat walk_at "stp"
  refine ⟨sz2, ?_⟩
  repeat walk_at "stp"
  refine ⟨sz2, ?_⟩
  repeat walk_at "stp"
  refine ⟨sz2, fun r0 hr0 => ?_⟩
  refine Es_bare ?_
  refine Ev_List ?_
  repeat walk_at "stp"
  refine ⟨sz2, ?_⟩
  repeat walk_at "stp"
  refine ⟨sz2, ?_⟩
  repeat walk_at "stp"
  refine ⟨sz2, fun r1 hr1 => ?_⟩
  repeat walk_at "stp"
  refine ⟨sz2, fun r2 hr2 => ?_⟩
  refine Es_bare ?_
  refine Ev_List ?_
  repeat walk_at "stp"
  refine ⟨by decide, fun r3 hr3 => ?_⟩
  repeat walk_at "stp"
  refine ⟨sz2, ?_⟩
  change Op X (n + 8) (cmp .NotEq) [.tup [.ref r, .ref p], .tup [.ref r2, .ref r3]] (upd (upd (upd (upd H₃ r0 [qv 1, qv 2]) r1 [qv 0, qv 0]) r2 [.ref r0, .ref r1]) r3 (ivs [0])) _
  have m2 : MatAt (upd (upd (upd H₃ r0 [qv 1, qv 2]) r1 [qv 0, qv 0]) r2 [.ref r0, .ref r1]) r2 [r0, r1] [[1, 2], [0, 0]] :=
    mat2 (Grow.upd hr1 _ _ upd_same) upd_same hr2
  have g2 : Grow H₃ (upd (upd (upd (upd H₃ r0 [qv 1, qv 2]) r1 [qv 0, qv 0]) r2 [.ref r0, .ref r1]) r3 (ivs [0])) := ((Grow.upd hr0).trans (Grow.upd hr1)).trans ((Grow.upd hr2).trans (Grow.upd hr3))
  have m3 := m2.grow (Grow.upd (vs := ivs [0]) hr3)
  have p3 : upd (upd (upd (upd H₃ r0 [qv 1, qv 2]) r1 [qv 0, qv 0]) r2 [.ref r0, .ref r1]) r3 (ivs [0]) r3 = some (ivs [0]) := upd_same
  generalize upd (upd (upd (upd H₃ r0 [qv 1, qv 2]) r1 [qv 0, qv 0]) r2 [.ref r0, .ref r1]) r3 (ivs [0]) = H₄ at g2 m3 p3
  refine op_ne_same (RD.pair (m1.grow g2) (g2 _ _ hp1)) (RD.pair m3 p3) (pairD_ok _ _) (by decide) ?_
  repeat walk_at "stp"
  have k3 := k2.grow g2
  exact law_two L k3 (by walk_at "mv")
end
/-- the defs of the top, in their order -/
def allIx : List Nat := [2, 3, 4, 5, 6, 7, 8, 9, 10, 14, 15, 16, 17, 18, 19, 20, 22, 23, 24, 25, 26, 27, 28, 29, 30, 31]

theorem qv_of_lit {h : Heap} {v : Value} {n d : Int} {q : Rat} (r : ReadsLit h v (.tuple [.int n, .int d]) []) (hq : qv q = .tup [.int n, .int d]) : VR h (qv q) v := by
  rw [hq]
  cases r with
  | tuple ho hc hd ra =>
    rename_i o vs m
    refine .tup ⟨o, ho, hc, m, hd⟩ ?_
    generalize vs.toList = l at ra
    generalize hx : [WData.int n, WData.int d] = xs at ra
    generalize ([] : List Addr) = as at ra
    cases ra with
    | nil => cases hx
    | cons a b =>
      injection hx with h1 h2
      subst h1
      cases a
      generalize hy : [WData.int d] = ys at h2
      subst h2
      cases b with
      | nil => cases hy
      | cons c e =>
        injection hy with h3 h4
        subst h3
        cases c
        generalize hz : ([] : List WData) = zs at h4
        subst h4
        cases e with
        | nil => exact .cons (.int _ _) (.cons (.int _ _) .nil)
        | cons => cases hz

theorem env1_of {prog p : Program} {w : World} {loose : List PySem.Str} {mean : ExcName → Option Value} {mg mb : PySem.Str → Option Value} {h : Heap} {names : List PySem.Str}
    (T : Top p loose mean mg mb h) (TW : TopW p mg h) (hfree : ∀ x, x ∉ names → x ∉ bootMainNames → mg x = none)
    (hr : (recsOf p).map (fun d => (d.name, d.params, d.body, d.scope)) = allIx.map (fun i => (fnNm i, fnPar i, fnBody i, fnSc i)))
    (hz : (PySem.Str.ofString "ZERO", WData.tuple [.int 0, .int 1]) ∈ wlitsOf p) (ho : (PySem.Str.ofString "ONE", WData.tuple [.int 1, .int 1]) ∈ wlitsOf p)
    (hn : (["len", "abs", "range", "list", "sorted", "reversed"] : List String).all (fun x => !(names.contains (PySem.Str.ofString x)) && !(bootMainNames.contains (PySem.Str.ofString x))) = true) :
    ∃ fa, Env1 ⟨prog, w, h, mg, mb⟩ fa := by
  have hf : ∀ i, fnIx.contains i = true → ∃ a, mg (fnNm i) = some (.ref a) ∧ FnAt ⟨prog, w, h, mg, mb⟩ a (fnPar i) (fnBody i) (fnSc i) (fnNm i) := by
    intro i hi
    have hm : i ∈ allIx := by
      have : ∀ i ∈ fnIx, i ∈ allIx := by decide
      exact this i (List.contains_iff_mem.mp hi)
    have hm2 : (fnNm i, fnPar i, fnBody i, fnSc i) ∈ (recsOf p).map (fun d => (d.name, d.params, d.body, d.scope)) := by
      rw [hr]; exact List.mem_map.mpr ⟨i, hm, rfl⟩
    obtain ⟨d, hd, e⟩ := List.mem_map.mp hm2
    injection e with e1 e
    injection e with e2 e
    injection e with e3 e4
    obtain ⟨a, o, pm, code, doc, h1, h2, h3, h4⟩ := T.fn d hd
    rw [e1] at h1 h4 h3
    rw [e2, e3, e4] at h3
    exact ⟨a, h1, ⟨o, doc, pm, none, code, .none, fnNm i, h2, h3, h4⟩⟩
  refine ⟨fun i => if hi : fnIx.contains i = true then (hf i hi).choose else 0, ⟨⟨fun i hi => ?_⟩, fun i hi => ?_, ?_, ?_, ?_⟩⟩
  · rw [dif_pos hi]; exact (hf i hi).choose_spec.2
  · rw [dif_pos hi]; exact (hf i hi).choose_spec.1
  · obtain ⟨v, h1, h2⟩ := TW.lits _ hz
    exact ⟨v, h1, qv_of_lit h2 rfl⟩
  · obtain ⟨v, h1, h2⟩ := TW.lits _ ho
    exact ⟨v, h1, qv_of_lit h2 rfl⟩
  · intro x v hv
    have key : ∀ x v, (x, v) ∈ ([("len", .builtin "len"), ("abs", .builtin "abs"), ("range", .type "range"), ("list", .type "list"), ("sorted", .builtin "sorted"), ("reversed", .type "reversed")] : List (String × Value)) →
        x ∈ (["len", "abs", "range", "list", "sorted", "reversed"] : List String) ∧ PySem.Str.ofString x ≠ "__name__" ∧ bootBuiltins (PySem.Str.ofString x) = some v := by
      intro x v hv
      simp only [List.mem_cons, Prod.mk.injEq, List.not_mem_nil, or_false] at hv
      rcases hv with ⟨rfl, rfl⟩ | ⟨rfl, rfl⟩ | ⟨rfl, rfl⟩ | ⟨rfl, rfl⟩ | ⟨rfl, rfl⟩ | ⟨rfl, rfl⟩ <;> exact ⟨by simp, by decide +kernel, by decide +kernel⟩
    obtain ⟨k1, k2, k3⟩ := key x v hv
    have := List.all_eq_true.mp hn x k1
    simp only [Bool.and_eq_true, Bool.not_eq_true'] at this
    refine ⟨hfree _ (fun q => ?_) (fun q => ?_), by rw [← k3]; exact T.builtins _ k2⟩
    · have := this.1; rw [List.contains_iff_mem.mpr q] at this; cases this
    · have := this.2; rw [List.contains_iff_mem.mpr q] at this; cases this

theorem law_head {prog : Program} {w : World} {s₁ : Shared} {mg mb : PySem.Str → Option Value} {fa : Nat → Addr} (L : Env1 ⟨prog, w, s₁.heap, mg, mb⟩ fa)
    (hg : s₁.heap.Ns mainGlobals mg) (hb : s₁.heap.Ns builtinsNs mb) (hlim : s₁.heap.NoLimit) {h₁ : Heap} {tk : Nat} {m : PySem.Str → Option Value} {l f : Addr} {items : List Value} {ns : List Int} {cdv : Value} {nm : PySem.Str} {ob : Obj} {cv : Option Value}
    (F : Fr s₁.heap s₁.heap.objs.size h₁ m) (hm : m (PySem.Str.ofString "script") = some (.ref l)) (N : News s₁.heap s₁.heap.objs.size h₁ [(s₁.heap.objs.size + 1, ob)]) (hob : ob.data = .cell cv)
    (hl : s₁.heap.IsList l items.toArray) (hi : IntsAre items ns) (h63 : ns.length ≤ 63) {Q : Flow → Shared → Prop} {E : Value → Shared → Prop}
    (hQ : ∀ h' tk, (∀ b o, s₁.heap.get? b = some o → h'.get? b = some o) → Q (.ret (.bool true)) { s₁ with heap := h', toks := tk }) :
    wpAny (model prog w) (callerA.deeper (envOfC nm (fnSc 31) s₁.heap.objs.size f cdv)) (execs (fnBody 31) (envOfC nm (fnSc 31) s₁.heap.objs.size f cdv)) Q E { s₁ with heap := h₁, toks := tk } := by
  have hcells : (envOfC nm (fnSc 31) s₁.heap.objs.size f cdv).cells = [(PySem.Str.ofString "line", s₁.heap.objs.size + 1)] := by
    show cellsFrom (s₁.heap.objs.size + 1) (fnSc 31).names [] = _
    generalize s₁.heap.objs.size + 1 = k
    rfl
  have hkind : ∀ x, (envOfC nm (fnSc 31) s₁.heap.objs.size f cdv).kindOf x = (fnSc 31).names.lookup x := fun x => rfl
  have hcellk : ∀ x, (fnSc 31).names.lookup x = some .cell → x = PySem.Str.ofString "line" := by
    intro x e
    have hm := mem_of_lookup e
    have all : (fnSc 31).names.all (fun y => y.2 != .cell || y.1 == PySem.Str.ofString "line") = true := by decide +kernel
    have := List.all_eq_true.mp all _ hm
    simpa using this
  have hfreek : ∀ x, (fnSc 31).names.lookup x ≠ some .free := by
    intro x e
    have hm := mem_of_lookup e
    have all : (fnSc 31).names.all (fun y => y.2 != .free) = true := by decide +kernel
    have := List.all_eq_true.mp all _ hm
    simp at this
  have hNs := N _ (List.mem_singleton.mpr rfl)
  have hscr : (fnSc 31).names.lookup (PySem.Str.ofString "script") = some .local := by decide +kernel
  refine law_ok (n := 0) L (items := items.toArray) (ns := ns) hl (by simpa using VRs_ints hi) h63 _ (fun b => s₁.heap.get? b) _ _ _ _ ⟨rfl, by decide +kernel, rfl, rfl⟩ (by intro e; cases e) (Room.deeper (show Room (0 + 8 + 1) callerA from ⟨rfl, by decide +kernel, by decide +kernel⟩)) ?_ ?_ ?_
  · exact ⟨⟨hg, hb, hlim⟩, fun b o e => e, fun b o e => F.keep b o e, fun a vs e => by cases e⟩
  · refine ⟨⟨m, F.ns, fun x v hx hv => ?_⟩, ?_, fun x v hx hv => ?_, fun x hx => ?_, fun _ x c hx hc => ?_, fun _ => ?_⟩
    · unfold put at hv
      split at hv
      · rename_i e; subst e; cases hv; exact ⟨_, hm, .raw _⟩
      · cases hv
    · show s₁.heap.get? s₁.heap.objs.size = none
      cases q : s₁.heap.get? s₁.heap.objs.size with
      | none => rfl
      | some o => exact absurd (Heap.lt_size q) (Nat.lt_irrefl _)
    · unfold put at hv
      split at hv
      · rename_i e; subst e
        rw [hkind, hscr] at hx
        rcases hx with hx | hx <;> cases hx
      · cases hv
    · rw [hkind] at hx
      rw [hcellk x hx, hcells]
      exact ⟨s₁.heap.objs.size + 1, cv, by simp [List.lookup], ob, hNs.1, hob⟩
    · rw [hcells] at hc
      have := mem_of_lookup hc
      simp at this
      rw [this.2]; exact hNs.2.2
    · rw [hcells]; exact List.pairwise_singleton _ _
  · rintro f cf ρ' H' h' tk' rfl hfl R' F' t'
    cases hfl with
    | ret hv =>
      cases hv
      exact hQ h' tk' fun b o e => R'.keep b o e
end Mine
end

open PySem PySem.W PyProof.Rows
set_option maxRecDepth 100000 in
set_option maxHeartbeats 8000000 in
theorem PySem.Challenge.cw_ov0044_01_holds : PySem.Challenge.rw_ov0044_01.Holds := by
  w_on
  o_law
  o_head (Hook.none)
  (case hw => w_witness2)
  intro w s₀ s₁ mg mb G Y fa o pm cd doc dV kV ho hd hcd hD hmg hg args vals as hpre hlay hrd hwl hlo
  k_behind G ho hd hcd hD hmg hpre hlay hrd hwl hlo cd
  rename_i X V GL T B TE TW w10 w9 M w8 w7 ns hs hlay0 hL1 hr1 hl2 w5 w4 l items w1 hL ra w1' r0 hI hr hcond1 hcond K0 h₁ tk₁ F ob right N0 X0
  obtain ⟨fa', L⟩ := Mine.env1_of (prog := PySem.Challenge.rw_ov0044_01.row.prog) (w := w) T TW GL.free (by kernel_rfl)
    (List.mem_of_getElem? (i := 1) (by kernel_rfl)) (List.mem_of_getElem? (i := 2) (by kernel_rfl)) (by decide +kernel)
  refine Mine.law_head L T.g T.b T.nolimit F ?_ N0 right hL hI (by omega) fun h' tk hk => ?_
  · rfl
  · exact ⟨.inl ⟨.bool true, .bool true, [], rfl, fun _ => rfl, .bool _, (by kernel_rfl), fun _ => ⟨List.nodup_nil, fun a ha => by cases ha⟩⟩, hk, rfl, hg⟩
