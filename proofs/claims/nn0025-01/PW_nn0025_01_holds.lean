import PyProof.Rows.All
import Wide.All
import OpenK.AllK
import Wide.FinOn
import KE.KRevSl
import KE.IntBitsLaws
import KE.LcSums
import OpenK.KEqL
import KE.KTryOn
import PyProof.Rows.CatchBare
import KE.KLam
import KE.KNest
import Lean
import PySem.Challenge.RW_nn0025_01
set_option Elab.async false
set_option maxHeartbeats 8000000
set_option maxRecDepth 100000
set_option linter.all false
namespace CR
open PySem PySem.W PyProof.Rows
/-! the text's defs -/
def stAt (i : Nat) : Stmt := PySem.Challenge.pw_nn0025_01.main.body.getD i default
def bodyOf (i : Nat) : List Stmt := match stAt i with | .FunctionDef _ _ b _ _ _ _ _ _ _ => b | _ => []
def scopeOf (i : Nat) : Scope := match stAt i with | .FunctionDef _ _ _ _ _ _ s _ _ _ => s | _ => default
def paramsOf (i : Nat) : Arguments := match stAt i with | .FunctionDef _ p _ _ _ _ _ _ _ _ => p | _ => default
def nameOf (i : Nat) : Str := match stAt i with | .FunctionDef n _ _ _ _ _ _ _ _ _ => n | _ => default

abbrev RW := PySem.Challenge.rw_nn0025_01
def view : Program := { PySem.Challenge.pw_nn0025_01 with main := { PySem.Challenge.pw_nn0025_01.main with body := [stAt 1, stAt 2, stAt 3, stAt 4, stAt 5, stAt 6, stAt 7, stAt 8, stAt 9, stAt 10, stAt 12, stAt 13, stAt 14, stAt 15, stAt 16, stAt 17, stAt 18, stAt 19, stAt 20, stAt 22, stAt 23, stAt 24, stAt 25, stAt 26, stAt 27, stAt 28, stAt 30, stAt 31, stAt 32, stAt 33, stAt 34, stAt 35, stAt 36, stAt 37, stAt 38] } }
def posOf (i : Nat) : Pos := match stAt i with | .FunctionDef _ _ _ _ _ _ _ _ _ p => p | _ => default
def recOf (i : Nat) : DefRec := ⟨nameOf i, paramsOf i, bodyOf i, scopeOf i, posOf i⟩
end CR
namespace CR
open PySem PySem.W PyProof.Rows
theorem left_boot {p : Program} {N : Nat} {β : Type} {F : Shared → β} {r : World → β}
    (open_ : ∀ w : World, (fencedOpening treeTable p w N).map (fun s => (s.heap, s.gens, s.drawn, s.toks)) = some (boot_heap w.params, Array.mk [], boot_drawn, boot_toks))
    (run : ∀ (w : World) (os : OsState), (topFrom treeTable p w N ⟨boot_heap w.params, Array.mk [], boot_drawn, boot_toks, os⟩).map F = some (r w)) (w : World) : (openEnds treeTable p w N).map F = some (r w) := by
  obtain ⟨⟨h, gs, d, k, os⟩, e, e'⟩ := Option.map_eq_some_iff.mp (open_ w)
  obtain ⟨rfl, rfl, rfl, rfl⟩ : h = boot_heap w.params ∧ gs = Array.mk [] ∧ d = boot_drawn ∧ k = boot_toks := by simpa using e'
  unfold openEnds
  rw [e]
  exact run w os
theorem boot : ∀ w : World, (fencedOpening treeTable RW.row.prog w 3522).map (fun s => (s.heap, s.gens, s.drawn, s.toks)) = some (boot_heap w.params, Array.mk [], boot_drawn, boot_toks) :=
  boot_open (p := RW.row.prog) (N := 3522) (by rfl) (by rfl) (fun s => by rfl)
theorem hl : LeftO RW.row.prog view [] (fun s => xlAt view [] s && recOk (RowW.records RW.row.toRowW) s) (Hook.obs Hook.none) (Hook.val Hook.none) 3522 := by
  refine left_boot boot fun w os => ?_
  first
    | (delta topFrom
       rw [Fast.te14082659384304107361, Fast.te14364793385576792824, Fast.te8920871248978507458]
       kernel_rfl)
    | kernel_rfl
theorem law_said : RW.wellSaid = true := by
  first
    | (rw [Fast.te9446332074065402090]
       delta Fast.tw9446332074065402090
       repeat' (with_reducible refine look_both ?_ ?_)
       all_goals decide +kernel)
    | decide +kernel
theorem head (hc : WalkO view [] (XL view []) Hook.none.says RW.row.toRowW (recOf 38) [] fun f vs => PySem.call f vs) : RW.Holds := by
  refine holds_law law_said fun said => ?_
  refine holds_open (q := view) (loose := []) (Xt := fun s => xlAt view [] s && recOk (RowW.records RW.row.toRowW) s) (XP := XL view []) (Yf := Hook.obs Hook.none) (Ya := Hook.val Hook.none) (YP := Hook.says Hook.none) (N := 3522) hl (Hook.of Hook.none) (Hook.keeps Hook.none) (fun s e => xl_of s (Bool.and_eq_true_iff.mp e).1) XL.keeps (by with_unfolding_all rfl) (by with_unfolding_all rfl) (by with_unfolding_all rfl) (fun s e => recFacts_of (Bool.and_eq_true_iff.mp e).2) (by rfl) (by first | assumption | decide +kernel) (by decide +kernel) ⟨rfl, rfl, rfl, rfl, rfl, by decide +kernel⟩ ?hw hc
  case hw => exact ⟨[.list [.int 3, .int 1]], by decide +kernel, by decide +kernel⟩
end CR
namespace CR
open PySem PySem.W PyProof.Rows

/-! values as plain data -/
inductive PV where
  | none
  | bool (b : Bool)
  | int (i : Int)
  | ref (a : Addr)
  | bi (id : String)
  | ty (n : String)
  | list (xs : List PV)
  | tup (xs : List PV)

abbrev View := Addr → Option Obj
abbrev lst (vs : Array Value) (n : Nat) : Obj := { cls := .type "list", dict := none, data := .seq vs n, slots := #[] }
abbrev tpl (vs : Array Value) (n : Nat) : Obj := { cls := .type "tuple", dict := none, data := .seq vs n, slots := #[] }

mutual
def Rep (V : View) : PV → Value → Prop
  | .none, v => v = .none
  | .bool b, v => v = .bool b
  | .int i, v => ∃ t, v = .int i t
  | .ref a, v => v = .ref a
  | .bi id, v => v = .builtin id
  | .ty n, v => v = .type n
  | .list xs, v => ∃ l vs n, v = .ref l ∧ V l = some (lst vs n) ∧ Reps V xs vs.toList
  | .tup xs, v => ∃ l vs n, v = .ref l ∧ V l = some (tpl vs n) ∧ Reps V xs vs.toList
def Reps (V : View) : List PV → List Value → Prop
  | [], vs => vs = []
  | x :: xs, vs => ∃ v vs', vs = v :: vs' ∧ Rep V x v ∧ Reps V xs vs'
end

def View.Le (V V' : View) : Prop := ∀ b o, V b = some o → V' b = some o
theorem View.Le.refl (V : View) : V.Le V := fun _ _ e => e
theorem View.Le.trans {V V' V'' : View} (h : V.Le V') (h' : V'.Le V'') : V.Le V'' := fun b o e => h' b o (h b o e)

mutual
theorem Rep.mono {V V' : View} (h : V.Le V') : ∀ (x : PV) {v : Value}, Rep V x v → Rep V' x v
  | .none, _, r => r
  | .bool _, _, r => r
  | .int _, _, r => r
  | .ref _, _, r => r
  | .bi _, _, r => r
  | .ty _, _, r => r
  | .list xs, _, r => by
    simp only [Rep] at r ⊢
    obtain ⟨l, vs, n, e, hl, rs⟩ := r
    exact ⟨l, vs, n, e, h _ _ hl, Reps.mono h xs rs⟩
  | .tup xs, _, r => by
    simp only [Rep] at r ⊢
    obtain ⟨l, vs, n, e, hl, rs⟩ := r
    exact ⟨l, vs, n, e, h _ _ hl, Reps.mono h xs rs⟩
theorem Reps.mono {V V' : View} (h : V.Le V') : ∀ (xs : List PV) {vs : List Value}, Reps V xs vs → Reps V' xs vs
  | [], _, r => r
  | x :: xs, _, r => by
    simp only [Reps] at r ⊢
    obtain ⟨v, vs', e, hr, rs⟩ := r
    exact ⟨v, vs', e, Rep.mono h x hr, Reps.mono h xs rs⟩
end

theorem Reps.cons {V : View} {x : PV} {xs : List PV} {v : Value} {vs : List Value} (h : Rep V x v) (hs : Reps V xs vs) : Reps V (x :: xs) (v :: vs) := by
  simp only [Reps]; exact ⟨v, vs, rfl, h, hs⟩
theorem Reps.nil {V : View} : Reps V [] [] := by simp only [Reps]
theorem Reps.cons_inv {V : View} {x : PV} {xs : List PV} {vs : List Value} (h : Reps V (x :: xs) vs) : ∃ v vs', vs = v :: vs' ∧ Rep V x v ∧ Reps V xs vs' := by
  simpa only [Reps] using h
theorem Reps.nil_inv {V : View} {vs : List Value} (h : Reps V [] vs) : vs = [] := by simpa only [Reps] using h
theorem Reps.length {V : View} : ∀ {xs : List PV} {vs : List Value}, Reps V xs vs → vs.length = xs.length
  | [], _, h => by rw [h.nil_inv]; rfl
  | x :: xs, _, h => by
    obtain ⟨v, vs', rfl, _, hs⟩ := h.cons_inv
    rw [List.length_cons, List.length_cons, hs.length]
theorem Reps.get {V : View} : ∀ {xs : List PV} {vs : List Value} {i : Nat} {x : PV}, Reps V xs vs → xs[i]? = some x → ∃ v, vs[i]? = some v ∧ Rep V x v
  | [], _, _, _, _, e => by simp at e
  | x :: xs, _, 0, y, h, e => by
    obtain ⟨v, vs', rfl, hv, _⟩ := h.cons_inv
    simp only [List.getElem?_cons_zero, Option.some.injEq] at e
    exact ⟨v, by simp, e ▸ hv⟩
  | x :: xs, _, i + 1, y, h, e => by
    obtain ⟨v, vs', rfl, _, hs⟩ := h.cons_inv
    simp only [List.getElem?_cons_succ] at e ⊢
    exact hs.get e
theorem Reps.get' {V : View} : ∀ {xs : List PV} {vs : List Value} {i : Nat} {v : Value}, Reps V xs vs → vs[i]? = some v → ∃ x, xs[i]? = some x ∧ Rep V x v
  | [], _, _, _, h, e => by rw [h.nil_inv] at e; simp at e
  | x :: xs, _, 0, y, h, e => by
    obtain ⟨v, vs', rfl, hv, _⟩ := h.cons_inv
    simp only [List.getElem?_cons_zero, Option.some.injEq] at e
    exact ⟨x, by simp, e ▸ hv⟩
  | x :: xs, _, i + 1, y, h, e => by
    obtain ⟨v, vs', rfl, _, hs⟩ := h.cons_inv
    simp only [List.getElem?_cons_succ] at e ⊢
    exact hs.get' e
theorem Reps.append {V : View} : ∀ {xs ys : List PV} {vs us : List Value}, Reps V xs vs → Reps V ys us → Reps V (xs ++ ys) (vs ++ us)
  | [], _, _, _, h, h' => by rw [h.nil_inv]; exact h'
  | x :: xs, _, _, _, h, h' => by
    obtain ⟨v, vs', rfl, hv, hs⟩ := h.cons_inv
    exact .cons hv (hs.append h')
theorem Reps.take {V : View} : ∀ {xs : List PV} {vs : List Value} (n : Nat), Reps V xs vs → Reps V (xs.take n) (vs.take n)
  | _, _, 0, _ => by rw [List.take_zero, List.take_zero]; exact .nil
  | [], _, _ + 1, h => by rw [h.nil_inv]; exact .nil
  | x :: xs, _, n + 1, h => by
    obtain ⟨v, vs', rfl, hv, hs⟩ := h.cons_inv
    exact .cons hv (hs.take n)
theorem Reps.drop {V : View} : ∀ {xs : List PV} {vs : List Value} (n : Nat), Reps V xs vs → Reps V (xs.drop n) (vs.drop n)
  | _, _, 0, h => h
  | [], _, _ + 1, h => by rw [h.nil_inv]; exact .nil
  | x :: xs, _, n + 1, h => by
    obtain ⟨v, vs', rfl, hv, hs⟩ := h.cons_inv
    exact hs.drop n
theorem Reps.reverse {V : View} : ∀ {xs : List PV} {vs : List Value}, Reps V xs vs → Reps V xs.reverse vs.reverse
  | [], _, h => by rw [h.nil_inv]; exact .nil
  | x :: xs, _, h => by
    obtain ⟨v, vs', rfl, hv, hs⟩ := h.cons_inv
    rw [List.reverse_cons, List.reverse_cons]
    exact hs.reverse.append (.cons hv .nil)
theorem Reps.set {V : View} {x : PV} {v : Value} (hv : Rep V x v) : ∀ {xs : List PV} {vs : List Value} (n : Nat), Reps V xs vs → Reps V (xs.set n x) (vs.set n v)
  | [], _, _, h => by rw [h.nil_inv]; exact .nil
  | y :: xs, _, 0, h => by
    obtain ⟨u, vs', rfl, _, hs⟩ := h.cons_inv
    exact .cons hv hs
  | y :: xs, _, n + 1, h => by
    obtain ⟨u, vs', rfl, hu, hs⟩ := h.cons_inv
    exact .cons hu (hs.set hv n)
theorem Reps.eraseIdx {V : View} : ∀ {xs : List PV} {vs : List Value} (n : Nat), Reps V xs vs → Reps V (xs.eraseIdx n) (vs.eraseIdx n)
  | [], _, _, h => by rw [h.nil_inv]; exact .nil
  | y :: xs, _, 0, h => by
    obtain ⟨u, vs', rfl, _, hs⟩ := h.cons_inv
    exact hs
  | y :: xs, _, n + 1, h => by
    obtain ⟨u, vs', rfl, hu, hs⟩ := h.cons_inv
    exact .cons hu (hs.eraseIdx n)
theorem Reps.replicate {V : View} {x : PV} {v : Value} (hv : Rep V x v) : ∀ n : Nat, Reps V (List.replicate n x) (List.replicate n v)
  | 0 => .nil
  | n + 1 => .cons hv (Reps.replicate hv n)

/-! locals and owned lists -/
inductive Loc where
  | pv (p : PV)
  | own (k : Nat)

structure St where
  ρ : List (Str × Loc)
  O : List (Option (List PV))

def put (x : Str) (l : Loc) : List (Str × Loc) → List (Str × Loc)
  | [] => [(x, l)]
  | p :: r => if p.1 = x then (x, l) :: r else p :: put x l r
theorem lookup_put (x : Str) (l : Loc) : ∀ (ρ : List (Str × Loc)) (y : Str), (put x l ρ).lookup y = if y = x then some l else ρ.lookup y
  | [], y => by
    by_cases h : y = x
    · subst h; simp [put]
    · have hb : (y == x) = false := beq_eq_false_iff_ne.mpr h
      simp [put, h, hb, List.lookup]
  | (z, m) :: r, y => by
    unfold put
    by_cases hz : z = x
    · subst hz
      simp only [if_true]
      by_cases h : y = z
      · subst h; simp
      · have hb : (y == z) = false := beq_eq_false_iff_ne.mpr h
        simp [List.lookup_cons, hb, h]
    · simp only [hz, if_false]
      rw [List.lookup_cons, List.lookup_cons, lookup_put x l r y]
      by_cases h : y = z
      · subst h; simp [hz]
      · have hb : (y == z) = false := beq_eq_false_iff_ne.mpr h
        simp [hb]

abbrev St.put (σ : St) (x : Str) (l : Loc) : St := { σ with ρ := CR.put x l σ.ρ }
abbrev St.setO (σ : St) (k : Nat) (xs : Option (List PV)) : St := { σ with O := σ.O.set k xs }
abbrev St.addO (σ : St) (xs : List PV) : St := { σ with O := σ.O ++ [some xs] }

def LocRep (V : View) (ads : List Addr) : Loc → Value → Prop
  | .pv p, v => Rep V p v
  | .own k, v => ∃ a, ads[k]? = some a ∧ v = .ref a

def Pre (l l' : List Addr) : Prop := ∃ r, l' = l ++ r
theorem Pre.refl (l : List Addr) : Pre l l := ⟨[], (List.append_nil l).symm⟩
theorem Pre.trans {l l' l'' : List Addr} : Pre l l' → Pre l' l'' → Pre l l''
  | ⟨r, e⟩, ⟨r', e'⟩ => ⟨r ++ r', by rw [e', e, List.append_assoc]⟩
theorem Pre.get {l l' : List Addr} (h : Pre l l') {k : Nat} {a : Addr} (e : l[k]? = some a) : l'[k]? = some a := by
  obtain ⟨r, rfl⟩ := h
  rw [List.getElem?_append_left (List.getElem?_eq_some_iff.mp e).1]; exact e

theorem LocRep.mono {V V' : View} {ads ads' : List Addr} (h : V.Le V') (hp : Pre ads ads') : ∀ {l : Loc} {v : Value}, LocRep V ads l v → LocRep V' ads' l v
  | .pv p, _, r => Rep.mono h p r
  | .own _, _, ⟨a, e, h⟩ => ⟨a, hp.get e, h⟩

def Sees (V : View) (h : Heap) : Prop := ∀ b o, V b = some o → h.get? b = some o
theorem Sees.keeps {V : View} {h h' : Heap} (s : Sees V h) (k : ∀ b o, h.get? b = some o → h'.get? b = some o) : Sees V h' := fun b o e => k b o (s b o e)

theorem Sees.isList {V : View} {h : Heap} (s : Sees V h) {l : Addr} {vs : Array Value} {n : Nat} (e : V l = some (lst vs n)) : h.IsList l vs := ⟨_, s _ _ e, rfl, n, rfl⟩

/-! the written part and the globals, as a word of a heap -/
structure GlH (K : Frag) (h : Heap) : Prop where
  K : K.In h
  g : ∃ mg, h.Ns mainGlobals mg
  b : ∃ mb, h.Ns builtinsNs mb ∧ ∀ x : Str, x ≠ "__name__" → mb x = bootBuiltins x
  nolimit : h.NoLimit
theorem GlH.keeps {K : Frag} {h h' : Heap} (g : GlH K h) (k : ∀ b o, h.get? b = some o → h'.get? b = some o) : GlH K h' :=
  ⟨g.K.keeps k, g.g.imp fun _ x => x.keeps k, g.b.imp fun _ x => ⟨x.1.keeps k, x.2⟩, g.nolimit.keeps k⟩
def Gl (K : Frag) (V : View) : Prop := ∀ h, Sees V h → GlH K h
theorem Gl.mono {K : Frag} {V V' : View} (g : Gl K V) (h : V.Le V') : Gl K V' := fun x s => g x fun b o e => s b o (h b o e)

structure Room (A : Around) (d : Nat) : Prop where
  handled : A.handled = none
  depth : A.depth + d < recursionLimit
  units : A.units + 4 * d + 100 < cLine

structure RoomF (A : Around) (d : Nat) (fr : Around → Prop) : Prop extends Room A d where
  fr : fr A

structure Base where
  s₀ : Shared
  V₀ : View
  kv : View
  lent : List Addr
  cellsOwn : Bool

/-- where a name's value lies -/
def At (env : Env) (h : Heap) (m : Str → Option Value) (x : Str) (v : Value) : Prop :=
  (env.kindOf x = some .local ∧ m x = some v) ∨
  ((env.kindOf x = some .cell ∨ env.kindOf x = some .free) ∧ ∃ c, env.cells.lookup x = some c ∧ h.IsCell c (some v))

structure Rel (K : Frag) (bs : Base) (env : Env) (σ : St) (V : View) (ads : List Addr) (s : Shared) : Prop where
  same : ∃ h t, s = { bs.s₀ with heap := h, toks := t }
  sees : Sees V s.heap
  glob : Gl K V
  keep : Sees bs.kv s.heap
  vnew : ∀ b o, V b = some o → (∃ o', bs.V₀ b = some o') ∨ (bs.s₀.heap.objs.size ≤ b ∧ bs.kv b = none)
  frame : ∃ m, s.heap.Ns env.locals m ∧ ∀ x l, σ.ρ.lookup x = some l → ∃ v, LocRep V ads l v ∧ At env s.heap m x v
  Lnew : bs.s₀.heap.objs.size ≤ env.locals
  hL : V env.locals = none
  kL : bs.kv env.locals = none
  cells : bs.cellsOwn = true → ∀ x c, env.cells.lookup x = some c → (∃ v, s.heap.IsCell c v) ∧ V c = none ∧ bs.kv c = none ∧ (∀ y, env.cells.lookup y = some c → y = x)
  olen : ads.length = σ.O.length
  own : ∀ (k : Nat) xs, σ.O[k]? = some (some xs) → ∃ l vs n, ads[k]? = some l ∧ s.heap.get? l = some (lst vs n) ∧ Reps V xs vs.toList ∧ V l = none ∧ bs.kv l = none
  inj : ads.Nodup
  onew : ∀ (k : Nat) l, bs.lent.length ≤ k → ads[k]? = some l → bs.s₀.heap.objs.size ≤ l
  lentP : Pre bs.lent ads
  aex : ∀ l ∈ ads, ∃ o, s.heap.get? l = some o
  akv : ∀ l ∈ ads, bs.kv l = none
  cex : ∀ x c, env.cells.lookup x = some c → ∃ o, s.heap.get? c = some o
  adL : env.locals ∉ ads
  adC : ∀ x c, env.cells.lookup x = some c → c ∉ ads

theorem Rel.size {K : Frag} {bs : Base} {env : Env} {σ : St} {V : View} {ads : List Addr} {s : Shared} (R : Rel K bs env σ V ads s) : bs.s₀.heap.objs.size < s.heap.objs.size := by
  obtain ⟨m, h, _⟩ := R.frame
  exact Nat.lt_of_le_of_lt R.Lnew h.lt

theorem Rel.glh {K : Frag} {bs : Base} {env : Env} {σ : St} {V : View} {ads : List Addr} {s : Shared} (R : Rel K bs env σ V ads s) : GlH K s.heap := R.glob _ R.sees

/-- a step that keeps all that stands and changes no more than the tokens and new objects -/
theorem Rel.keeps {K : Frag} {bs : Base} {env : Env} {σ : St} {V : View} {ads : List Addr} {s s' : Shared} (R : Rel K bs env σ V ads s)
    (e : ∃ h t, s' = { s with heap := h, toks := t }) (k : ∀ b o, s.heap.get? b = some o → s'.heap.get? b = some o) : Rel K bs env σ V ads s' where
  same := by
    obtain ⟨h, t, rfl⟩ := e
    obtain ⟨h', t', e'⟩ := R.same
    exact ⟨h, t, by rw [e']⟩
  sees := R.sees.keeps k
  glob := R.glob
  keep := R.keep.keeps k
  vnew := R.vnew
  frame := by
    obtain ⟨m, hn, hx⟩ := R.frame
    refine ⟨m, hn.keeps k, fun x l e => ?_⟩
    obtain ⟨v, h1, h2⟩ := hx x l e
    exact ⟨v, h1, h2.imp id fun ⟨a, c, b, d⟩ => ⟨a, c, b, d.keeps k⟩⟩
  Lnew := R.Lnew
  hL := R.hL
  kL := R.kL
  cells := fun h x c e => by
    obtain ⟨⟨v, h1⟩, h2, h3, h4⟩ := R.cells h x c e
    exact ⟨⟨v, h1.keeps k⟩, h2, h3, h4⟩
  olen := R.olen
  own := fun k' xs e => by
    obtain ⟨l, vs, n, h1, h2, h3⟩ := R.own k' xs e
    exact ⟨l, vs, n, h1, k _ _ h2, h3⟩
  inj := R.inj
  onew := R.onew
  lentP := R.lentP
  aex := fun l hl => (R.aex l hl).imp fun o h => k _ _ h
  akv := R.akv
  cex := fun x c e => (R.cex x c e).imp fun o h => k _ _ h
  adL := R.adL
  adC := R.adC

theorem Rel.tok {K : Frag} {bs : Base} {env : Env} {σ : St} {V : View} {ads : List Addr} {s : Shared} (R : Rel K bs env σ V ads s) (t : Nat) : Rel K bs env σ V ads { s with toks := t } :=
  R.keeps ⟨s.heap, t, rfl⟩ fun _ _ e => e

/-- knowing less of the names -/
def Less (σ σ' : St) : Prop := σ'.O = σ.O ∧ ∀ x l, σ'.ρ.lookup x = some l → σ.ρ.lookup x = some l
theorem Rel.less {K : Frag} {bs : Base} {env : Env} {σ σ' : St} {V : View} {ads : List Addr} {s : Shared} (R : Rel K bs env σ V ads s) (h : Less σ σ') : Rel K bs env σ' V ads s where
  same := R.same
  sees := R.sees
  glob := R.glob
  keep := R.keep
  vnew := R.vnew
  frame := by
    obtain ⟨m, hn, hx⟩ := R.frame
    exact ⟨m, hn, fun x l e => hx x l (h.2 x l e)⟩
  Lnew := R.Lnew
  hL := R.hL
  kL := R.kL
  cells := R.cells
  olen := by rw [h.1]; exact R.olen
  own := fun k xs e => R.own k xs (by rw [← h.1]; exact e)
  inj := R.inj
  onew := R.onew
  lentP := R.lentP
  aex := R.aex
  akv := R.akv
  cex := R.cex
  adL := R.adL
  adC := R.adC

/-- new frozen data: the view grows by objects that the heap has, none of them held back -/
theorem Rel.grow {K : Frag} {bs : Base} {env : Env} {σ : St} {V V' : View} {ads : List Addr} {s : Shared} (R : Rel K bs env σ V ads s) (hle : V.Le V') (hs : Sees V' s.heap)
    (hn : ∀ b o, V' b = some o → (∃ o', V b = some o') ∨ (bs.s₀.heap.objs.size ≤ b ∧ bs.kv b = none ∧ b ≠ env.locals ∧ (∀ x, env.cells.lookup x ≠ some b) ∧ b ∉ ads)) : Rel K bs env σ V' ads s where
  same := R.same
  sees := hs
  glob := R.glob.mono hle
  keep := R.keep
  vnew := fun b o e => (hn b o e).elim (fun ⟨o', e'⟩ => R.vnew b o' e') fun h => .inr ⟨h.1, h.2.1⟩
  frame := by
    obtain ⟨m, hN, hx⟩ := R.frame
    refine ⟨m, hN, fun x l e => ?_⟩
    obtain ⟨v, h1, h2⟩ := hx x l e
    exact ⟨v, h1.mono hle (Pre.refl _), h2⟩
  Lnew := R.Lnew
  hL := by
    cases e : V' env.locals with
    | none => rfl
    | some o =>
      rcases hn _ _ e with ⟨o', e'⟩ | h
      · rw [R.hL] at e'; cases e'
      · exact absurd rfl h.2.2.1
  kL := R.kL
  cells := fun h x c e => by
    obtain ⟨h1, h2, h3, h4⟩ := R.cells h x c e
    refine ⟨h1, ?_, h3, h4⟩
    cases e' : V' c with
    | none => rfl
    | some o =>
      rcases hn _ _ e' with ⟨o', e''⟩ | h'
      · rw [h2] at e''; cases e''
      · exact absurd e (h'.2.2.2.1 x)
  olen := R.olen
  own := fun k xs e => by
    obtain ⟨l, vs, n, h1, h2, h3, h4, h5⟩ := R.own k xs e
    refine ⟨l, vs, n, h1, h2, Reps.mono hle _ h3, ?_, h5⟩
    cases e' : V' l with
    | none => rfl
    | some o =>
      rcases hn _ _ e' with ⟨o', e''⟩ | h
      · rw [h4] at e''; cases e''
      · exact absurd (List.mem_of_getElem? h1) h.2.2.2.2
  inj := R.inj
  onew := R.onew
  lentP := R.lentP
  aex := R.aex
  akv := R.akv
  cex := R.cex
  adL := R.adL
  adC := R.adC

def View.add (V : View) (a : Addr) (o : Obj) : View := fun b => if b = a then some o else V b
theorem View.add_self {V : View} {a : Addr} {o : Obj} : V.add a o a = some o := by unfold View.add; rw [if_pos rfl]
theorem View.le_add {V : View} {a : Addr} {o : Obj} (h : V a = none) : V.Le (V.add a o) := fun b o' e => by
  unfold View.add
  split
  · rename_i q; subst q; rw [h] at e; cases e
  · exact e
theorem View.add_cases {V : View} {a b : Addr} {o o' : Obj} (e : V.add a o b = some o') : (b = a ∧ o' = o) ∨ (b ≠ a ∧ V b = some o') := by
  unfold View.add at e
  split at e
  · rename_i q; cases e; exact .inl ⟨q, rfl⟩
  · rename_i q; exact .inr ⟨q, e⟩

theorem Sees.none_of {V : View} {h : Heap} (s : Sees V h) {a : Addr} (ha : h.get? a = none) : V a = none := by
  cases e : V a with
  | none => rfl
  | some o => rw [s _ _ e] at ha; cases ha
theorem get?_ge {h : Heap} {a : Addr} (ha : h.objs.size ≤ a) : h.get? a = none := by
  cases e : h.get? a with
  | none => rfl
  | some o => exact absurd (Heap.lt_size e) (Nat.not_lt.mpr ha)

end CR
namespace CR
open PySem PySem.W PyProof.Rows

structure Cx where
  prog : Program
  w : World
  K : Frag
  bs : Base
  env : Env
  d : Nat
  fr : Around → Prop

abbrev Cx.R (C : Cx) (σ : St) (V : View) (ads : List Addr) (s : Shared) : Prop := Rel C.K C.bs C.env σ V ads s

/-- what follows a tree -/
def Goes (C : Cx) {α β : Type} (Rp : View → List Addr → α → β → Prop) (Q : α → St → Prop) (V : View) (ads : List Addr) (Q' : β → Shared → Prop) : Prop :=
  ∀ b s' V' ads' a σ', V.Le V' → Pre ads ads' → C.R σ' V' ads' s' → Rp V' ads' a b → Q a σ' → Q' b s'

theorem Goes.later {C : Cx} {α β : Type} {Rp : View → List Addr → α → β → Prop} {Q : α → St → Prop} {V V' : View} {ads ads' : List Addr} {Q' : β → Shared → Prop}
    (g : Goes C Rp Q V ads Q') (h : V.Le V') (p : Pre ads ads') : Goes C Rp Q V' ads' Q' :=
  fun b s' V'' ads'' a σ' h' p' => g b s' V'' ads'' a σ' (h.trans h') (p.trans p')

def W (C : Cx) {α β : Type} (Rp : View → List Addr → α → β → Prop) (t : Sem β) (σ : St) (Q : α → St → Prop) : Prop :=
  ∀ (A : Around) (E : Value → Shared → Prop) (s : Shared) (V : View) (ads : List Addr) (Q' : β → Shared → Prop), RoomF A C.d C.fr → C.R σ V ads s → Goes C Rp Q V ads Q' → wpAny (model C.prog C.w) A t Q' E s
def W1 (C : Cx) {α β : Type} (Rp : View → List Addr → α → β → Prop) (f : Value → Sem β) (r : Loc) (σ : St) (Q : α → St → Prop) : Prop :=
  ∀ (A : Around) (E : Value → Shared → Prop) (s : Shared) (V : View) (ads : List Addr) (Q' : β → Shared → Prop) (v : Value), RoomF A C.d C.fr → C.R σ V ads s → LocRep V ads r v → Goes C Rp Q V ads Q' → wpAny (model C.prog C.w) A (f v) Q' E s
def W2 (C : Cx) {α β : Type} (Rp : View → List Addr → α → β → Prop) (f : Value → Value → Sem β) (r r' : Loc) (σ : St) (Q : α → St → Prop) : Prop :=
  ∀ (A : Around) (E : Value → Shared → Prop) (s : Shared) (V : View) (ads : List Addr) (Q' : β → Shared → Prop) (v v' : Value), RoomF A C.d C.fr → C.R σ V ads s → LocRep V ads r v → LocRep V ads r' v' → Goes C Rp Q V ads Q' → wpAny (model C.prog C.w) A (f v v') Q' E s

def Locs (V : View) (ads : List Addr) : List Loc → List Value → Prop
  | [], vs => vs = []
  | r :: rs, vs => ∃ v vs', vs = v :: vs' ∧ LocRep V ads r v ∧ Locs V ads rs vs'
theorem Locs.mono {V V' : View} {ads ads' : List Addr} (h : V.Le V') (hp : Pre ads ads') : ∀ {rs : List Loc} {vs : List Value}, Locs V ads rs vs → Locs V' ads' rs vs
  | [], _, e => e
  | _ :: _, _, ⟨v, vs', e, hv, hs⟩ => ⟨v, vs', e, hv.mono h hp, hs.mono h hp⟩
def WA (C : Cx) {α β : Type} (Rp : View → List Addr → α → β → Prop) (f : List Value → Sem β) (rs : List Loc) (σ : St) (Q : α → St → Prop) : Prop :=
  ∀ (A : Around) (E : Value → Shared → Prop) (s : Shared) (V : View) (ads : List Addr) (Q' : β → Shared → Prop) (vs : List Value), RoomF A C.d C.fr → C.R σ V ads s → Locs V ads rs vs → Goes C Rp Q V ads Q' → wpAny (model C.prog C.w) A (f vs) Q' E s

abbrev BoolRep : View → List Addr → Bool → Bool → Prop := fun _ _ a b => b = a
abbrev UnitRep : View → List Addr → Unit → Unit → Prop := fun _ _ _ _ => True
inductive RF where
  | next
  | brk
  | cont
  | ret (l : Loc)
def FlowRep (V : View) (ads : List Addr) : RF → Flow → Prop
  | .next, f => f = .next
  | .brk, f => f = .brk
  | .cont, f => f = .cont
  | .ret l, f => ∃ v, f = .ret v ∧ LocRep V ads l v

abbrev WE (C : Cx) (e : Expr) (σ : St) (Q : Loc → St → Prop) : Prop := W C LocRep (eval e C.env) σ Q
abbrev WT (C : Cx) (e : Expr) (σ : St) (Q : Bool → St → Prop) : Prop := W C BoolRep (isTrue e C.env (eval e C.env)) σ Q
abbrev WS (C : Cx) (st : Stmt) (σ : St) (Q : RF → St → Prop) : Prop := W C FlowRep (exec st C.env) σ Q
abbrev WB (C : Cx) (b : List Stmt) (σ : St) (Q : RF → St → Prop) : Prop := W C FlowRep (execs b C.env) σ Q
abbrev WL (C : Cx) (es : List Expr) (pos : Pos) (σ : St) (Q : List Loc → St → Prop) : Prop := W C Locs (spliced (backTo pos (starEach es C.env))) σ Q

section
variable {C : Cx} {σ : St}

theorem W.mono {α β : Type} {Rp : View → List Addr → α → β → Prop} {t : Sem β} {Q Q₂ : α → St → Prop} (h : W C Rp t σ Q) (hq : ∀ a σ', Q a σ' → Q₂ a σ') : W C Rp t σ Q₂ :=
  fun A E s V ads Q' rm R g => h A E s V ads Q' rm R fun b s' V' ads' a σ' h1 h2 h3 h4 h5 => g b s' V' ads' a σ' h1 h2 h3 h4 (hq a σ' h5)
theorem W.less {α β : Type} {Rp : View → List Addr → α → β → Prop} {t : Sem β} {Q : α → St → Prop} {σ' : St} (hl : Less σ σ') (h : W C Rp t σ' Q) : W C Rp t σ Q :=
  fun A E s V ads Q' rm R g => h A E s V ads Q' rm (R.less hl) g

/-! names -/
theorem kindOf_lookup {env : Env} {x : Str} : env.kindOf x = env.scope.names.lookup x := rfl

theorem loadName_At {m : Str → Option Value} {M : Model} {A : Around} {E : Value → Shared → Prop} {s : Shared} {env : Env} {x : Str} {v : Value} {Q : Value → Shared → Prop} (hk : env.scope.kind = .function) (hN : s.heap.Ns env.locals m) (h : At env s.heap m x v)
    (hc : (x == ("__classdict__" : Str)) = false) (q : Q v s) : wpAny M A (loadName env x) Q E s := by
  rcases h with ⟨h1, h2⟩ | ⟨h1 | h1, c, h2, h3⟩
  · exact wpAny_loadName_local hk h1 hN h2 q
  · exact wpAny_loadName_cell hk h1 h2 h3 q
  · exact wpAny_loadName_free hk h1 h2 h3 q hc

theorem e_name {x : Str} {pos : Pos} {l : Loc} {Q : Loc → St → Prop} (hx : σ.ρ.lookup x = some l) (q : Q l σ) (hk : C.env.scope.kind = .function := by with_unfolding_all rfl)
    (hd : (x == ("__debug__" : Str)) = false := by with_unfolding_all rfl) (hc : (x == ("__classdict__" : Str)) = false := by with_unfolding_all rfl) : WE C (.Name x pos) σ Q := fun A E s V ads Q' rm R g => by
  obtain ⟨m, hN, h⟩ := R.frame
  obtain ⟨v, h1, h2⟩ := h x l hx
  exact wpAny_Name (loadName_At hk hN h2 hc (g v s V ads l σ (View.Le.refl V) (Pre.refl _) R h1 q)) hd

theorem e_glob {x : Str} {pos : Pos} {f : Addr} {Q : Loc → St → Prop} (hf : nsIn C.K mainGlobals x = some (some (.ref f))) (q : Q (.pv (.ref f)) σ) (hk : C.env.scope.kind = .function := by with_unfolding_all rfl)
    (hx : C.env.kindOf x = some .globalImplicit := by with_unfolding_all rfl) (hgl : C.env.globals = mainGlobals := by with_unfolding_all rfl) (hd : (x == ("__debug__" : Str)) = false := by with_unfolding_all rfl) : WE C (.Name x pos) σ Q := fun A E s V ads Q' rm R g => by
  obtain ⟨mg, hg⟩ := R.glh.g
  refine Calls.Name_function_global hk hx (Calls.loadGlobal_global (env := C.env) (by rw [hgl]; exact hg) (mg_of R.glh.K hg hf) ?_) hd
  exact g _ s V ads _ σ (View.Le.refl V) (Pre.refl _) R (by simp only [LocRep, Rep]) q

theorem e_builtin {x : Str} {pos : Pos} {p : PV} {v : Value} {Q : Loc → St → Prop} (hf : nsIn C.K mainGlobals x = some none) (hv : bootBuiltins x = some v) (hp : ∀ V : View, Rep V p v) (q : Q (.pv p) σ) (hk : C.env.scope.kind = .function := by with_unfolding_all rfl)
    (hx : C.env.kindOf x = some .globalImplicit := by with_unfolding_all rfl) (hgl : C.env.globals = mainGlobals := by with_unfolding_all rfl) (hbl : C.env.builtins = builtinsNs := by with_unfolding_all rfl) (hd : (x == ("__debug__" : Str)) = false := by with_unfolding_all rfl) (hn : x ≠ "__name__" := by decide) : WE C (.Name x pos) σ Q := fun A E s V ads Q' rm R g => by
  obtain ⟨mg, hg⟩ := R.glh.g
  obtain ⟨mb, hb, hbb⟩ := R.glh.b
  refine Calls.Name_function_global hk hx (Calls.loadGlobal_builtin (env := C.env) (by rw [hgl]; exact hg) (mg_none_of R.glh.K hg hf) (by rw [hbl]; exact hb) ((hbb x hn).trans hv) ?_) hd
  exact g _ s V ads (.pv p) σ (View.Le.refl V) (Pre.refl _) R (hp V) q

/-! constants -/
theorem e_int {i : Int} {k : Nat} {pos : Pos} {Q : Loc → St → Prop} (q : Q (.pv (.int i)) σ) : WE C (.Constant (.int i) k pos) σ Q := fun A E s V ads Q' rm R g =>
  wpAny_Constant_int (g _ _ V ads _ σ (View.Le.refl V) (Pre.refl _) (R.tok _) (by simp only [LocRep, Rep]; exact ⟨_, rfl⟩) q)
theorem e_none {k : Nat} {pos : Pos} {Q : Loc → St → Prop} (q : Q (.pv .none) σ) : WE C (.Constant .none k pos) σ Q := fun A E s V ads Q' rm R g =>
  wpAny_Constant_none (g _ _ V ads _ σ (View.Le.refl V) (Pre.refl _) R (by simp only [LocRep, Rep]) q)
theorem e_bool {b : Bool} {k : Nat} {pos : Pos} {Q : Loc → St → Prop} (q : Q (.pv (.bool b)) σ) : WE C (.Constant (.bool b) k pos) σ Q := fun A E s V ads Q' rm R g =>
  wpAny_Constant_bool (g _ _ V ads _ σ (View.Le.refl V) (Pre.refl _) R (by simp only [LocRep, Rep]) q)

/-! two operands -/
theorem e_bin {l r : Expr} {op : Operator} {pos : Pos} {Q : Loc → St → Prop} (h : WE C l σ fun a σ₁ => WE C r σ₁ fun b σ₂ => W2 C LocRep (binaryOp op) a b σ₂ Q) : WE C (.BinOp l op r pos) σ Q := fun A E s V ads Q' rm R g =>
  wpAny_BinOp (h A E s V ads _ rm R fun v s₁ V₁ ads₁ a σ₁ le₁ pr₁ R₁ r₁ h₁ =>
    h₁ A E s₁ V₁ ads₁ _ rm R₁ fun v' s₂ V₂ ads₂ b σ₂ le₂ pr₂ R₂ r₂ h₂ => h₂ A E s₂ V₂ ads₂ Q' v v' rm R₂ (r₁.mono le₂ pr₂) r₂ (g.later (le₁.trans le₂) (pr₁.trans pr₂)))
theorem e_un {x : Expr} {op : UnaryOp} {pos : Pos} {Q : Loc → St → Prop} (h : WE C x σ fun a σ₁ => W1 C LocRep (unaryOp op) a σ₁ Q) : WE C (.UnaryOp op x pos) σ Q := fun A E s V ads Q' rm R g =>
  wpAny_UnaryOp (h A E s V ads _ rm R fun v s₁ V₁ ads₁ a σ₁ le₁ pr₁ R₁ r₁ h₁ => h₁ A E s₁ V₁ ads₁ Q' v rm R₁ r₁ (g.later le₁ pr₁))
theorem e_cmp {l r : Expr} {op : CmpOp} {pos : Pos} {Q : Loc → St → Prop} (h : WE C l σ fun a σ₁ => WE C r σ₁ fun b σ₂ => W2 C LocRep (compareOp op) a b σ₂ Q) (hm : behindInMarks op r = false := by with_unfolding_all rfl) : WE C (.Compare l [op] [r] pos) σ Q := fun A E s V ads Q' rm R g =>
  wpAny_Compare1 (h A E s V ads _ rm R fun v s₁ V₁ ads₁ a σ₁ le₁ pr₁ R₁ r₁ h₁ =>
    h₁ A E s₁ V₁ ads₁ _ rm R₁ fun v' s₂ V₂ ads₂ b σ₂ le₂ pr₂ R₂ r₂ h₂ => h₂ A E s₂ V₂ ads₂ Q' v v' rm R₂ (r₁.mono le₂ pr₂) r₂ (g.later (le₁.trans le₂) (pr₁.trans pr₂))) hm
theorem t_cmp {l r : Expr} {op : CmpOp} {pos : Pos} {Q : Bool → St → Prop} (h : WE C l σ fun a σ₁ => WE C r σ₁ fun b σ₂ => W2 C LocRep (compareOp op) a b σ₂ fun c σ₃ => ∃ t, c = .pv (.bool t) ∧ Q t σ₃) (hm : behindInMarks op r = false := by with_unfolding_all rfl) :
    WT C (.Compare l [op] [r] pos) σ Q := fun A E s V ads Q' rm R g =>
  wpAny_isTrue_Compare1 (h A E s V ads _ rm R fun v s₁ V₁ ads₁ a σ₁ le₁ pr₁ R₁ r₁ h₁ =>
    h₁ A E s₁ V₁ ads₁ _ rm R₁ fun v' s₂ V₂ ads₂ b σ₂ le₂ pr₂ R₂ r₂ h₂ => h₂ A E s₂ V₂ ads₂ _ v v' rm R₂ (r₁.mono le₂ pr₂) r₂ fun c s₃ V₃ ads₃ l₃ σ₃ le₃ pr₃ R₃ r₃ h₃ => by
      obtain ⟨t, rfl, q⟩ := h₃
      simp only [LocRep, Rep] at r₃
      subst r₃
      exact wpAny_truthy_bool (g t s₃ V₃ ads₃ t σ₃ (le₁.trans (le₂.trans le₃)) (pr₁.trans (pr₂.trans pr₃)) R₃ rfl q)) hm

theorem ifExp {test body orelse : Expr} {pos : Pos} {Q : Loc → St → Prop} (h : WT C test σ fun b σ₁ => if b then WE C body σ₁ Q else WE C orelse σ₁ Q) : WE C (.IfExp test body orelse pos) σ Q := fun A E s V ads Q' rm R g =>
  wpAny_IfExp (h A E s V ads _ rm R fun b s₁ V₁ ads₁ t σ₁ le₁ pr₁ R₁ r₁ h₁ => by
    subst r₁
    cases b
    · simp only [Bool.false_eq_true, if_false] at h₁ ⊢
      exact h₁ A E s₁ V₁ ads₁ Q' rm R₁ (g.later le₁ pr₁)
    · simp only [if_true] at h₁ ⊢
      exact h₁ A E s₁ V₁ ads₁ Q' rm R₁ (g.later le₁ pr₁))
theorem t_not {x : Expr} {pos : Pos} {Q : Bool → St → Prop} (h : WT C x σ fun b σ₁ => Q (!b) σ₁) : WT C (.UnaryOp .Not x pos) σ Q := fun A E s V ads Q' rm R g =>
  wpAny_isTrue_Not (h A E s V ads _ rm R fun b s₁ V₁ ads₁ t σ₁ le₁ pr₁ R₁ r₁ h₁ => by
    subst r₁
    exact g (!b) s₁ V₁ ads₁ (!b) σ₁ le₁ pr₁ R₁ rfl h₁)
abbrev WAll (C : Cx) (op : BoolOp) (es : List Expr) (σ : St) (Q : Bool → St → Prop) : Prop := W C BoolRep (allTrue op es C.env) σ Q
theorem t_bool {op : BoolOp} {es : List Expr} {pos : Pos} {Q : Bool → St → Prop} (h : WAll C op es σ Q) : WT C (.BoolOp op es pos) σ Q := fun A E s V ads Q' rm R g =>
  wpAny_isTrue_BoolOp (h A E s V ads Q' rm R g)
theorem all_and_nil {Q : Bool → St → Prop} (q : Q true σ) : WAll C .And [] σ Q := fun A E s V ads Q' rm R g => wpAny_allTrue_And_nil (g _ s V ads _ σ (View.Le.refl V) (Pre.refl _) R rfl q)
theorem all_or_nil {Q : Bool → St → Prop} (q : Q false σ) : WAll C .Or [] σ Q := fun A E s V ads Q' rm R g => wpAny_allTrue_Or_nil (g _ s V ads _ σ (View.Le.refl V) (Pre.refl _) R rfl q)
theorem all_and {x : Expr} {rest : List Expr} {Q : Bool → St → Prop} (h : WT C x σ fun b σ₁ => if b then WAll C .And rest σ₁ Q else Q false σ₁) : WAll C .And (x :: rest) σ Q := fun A E s V ads Q' rm R g =>
  wpAny_allTrue_And_cons (h A E s V ads _ rm R fun b s₁ V₁ ads₁ t σ₁ le₁ pr₁ R₁ r₁ h₁ => by
    subst r₁
    cases b
    · simp only [Bool.false_eq_true, if_false] at h₁ ⊢
      exact g _ s₁ V₁ ads₁ _ σ₁ le₁ pr₁ R₁ rfl h₁
    · simp only [if_true] at h₁ ⊢
      exact h₁ A E s₁ V₁ ads₁ Q' rm R₁ (g.later le₁ pr₁))
theorem all_or {x : Expr} {rest : List Expr} {Q : Bool → St → Prop} (h : WT C x σ fun b σ₁ => if b then Q true σ₁ else WAll C .Or rest σ₁ Q) : WAll C .Or (x :: rest) σ Q := fun A E s V ads Q' rm R g =>
  wpAny_allTrue_Or_cons (h A E s V ads _ rm R fun b s₁ V₁ ads₁ t σ₁ le₁ pr₁ R₁ r₁ h₁ => by
    subst r₁
    cases b
    · simp only [Bool.false_eq_true, if_false] at h₁ ⊢
      exact h₁ A E s₁ V₁ ads₁ Q' rm R₁ (g.later le₁ pr₁)
    · simp only [if_true] at h₁ ⊢
      exact g _ s₁ V₁ ads₁ _ σ₁ le₁ pr₁ R₁ rfl h₁)

/-! a chain of two tests on ints: `a <= b < c` in a place of truth -/
theorem l_nil {pos : Pos} {Q : List Loc → St → Prop} (q : Q [] σ) : WL C [] pos σ Q := fun A E s V ads Q' rm R g =>
  wpAny_items_nil (g [] s V ads [] σ (View.Le.refl V) (Pre.refl _) R rfl q)
theorem l_cons {e : Expr} {rest : List Expr} {pos : Pos} {Q : List Loc → St → Prop} (h : WE C e σ fun r σ₁ => WL C rest pos σ₁ fun rs σ₂ => Q (r :: rs) σ₂)
    (he : starEach (e :: rest) C.env = (false, eval e C.env) :: starEach rest C.env := by with_unfolding_all rfl) : WL C (e :: rest) pos σ Q := fun A E s V ads Q' rm R g =>
  wpAny_items_cons (h A E s V ads _ rm R fun v s₁ V₁ ads₁ a σ₁ le₁ pr₁ R₁ r₁ h₁ =>
    h₁ A E s₁ V₁ ads₁ _ rm R₁ fun vs s₂ V₂ ads₂ rs σ₂ le₂ pr₂ R₂ r₂ h₂ => g (v :: vs) s₂ V₂ ads₂ (a :: rs) σ₂ (le₁.trans le₂) (pr₁.trans pr₂) R₂ ⟨v, vs, rfl, r₁.mono le₂ pr₂, r₂⟩ h₂) he

/-! ints -/
section
variable {a b : Int} {Q : Loc → St → Prop}
theorem w2_int {f : Value → Value → Sem Value} {c : Int} (h : ∀ (A : Around) (E : Value → Shared → Prop) (s : Shared) (t u : Tok) (Q' : Value → Shared → Prop), A.handled = none → (∀ t' k, Q' (.int c t') { s with toks := k }) → wpAny (model C.prog C.w) A (f (.int a t) (.int b u)) Q' E s)
    (q : Q (.pv (.int c)) σ) : W2 C LocRep f (.pv (.int a)) (.pv (.int b)) σ Q := fun A E s V ads Q' v v' rm R r r' g => by
  simp only [LocRep, Rep] at r r'
  obtain ⟨t, rfl⟩ := r
  obtain ⟨u, rfl⟩ := r'
  exact h A E s t u Q' rm.handled fun t' k => g _ _ V ads _ σ (View.Le.refl V) (Pre.refl _) (R.tok k) (by simp only [LocRep, Rep]; exact ⟨_, rfl⟩) q
theorem w2_bool {f : Value → Value → Sem Value} {c : Bool} (h : ∀ (A : Around) (E : Value → Shared → Prop) (s : Shared) (t u : Tok) (Q' : Value → Shared → Prop), Q' (.bool c) s → wpAny (model C.prog C.w) A (f (.int a t) (.int b u)) Q' E s)
    (q : Q (.pv (.bool c)) σ) : W2 C LocRep f (.pv (.int a)) (.pv (.int b)) σ Q := fun A E s V ads Q' v v' rm R r r' g => by
  simp only [LocRep, Rep] at r r'
  obtain ⟨t, rfl⟩ := r
  obtain ⟨u, rfl⟩ := r'
  exact h A E s t u Q' (g _ _ V ads _ σ (View.Le.refl V) (Pre.refl _) R (by simp only [LocRep, Rep]) q)
theorem add_ii (q : Q (.pv (.int (a + b))) σ) : W2 C LocRep (binaryOp .Add) (.pv (.int a)) (.pv (.int b)) σ Q := w2_int (fun _ _ _ _ _ _ _ h => P.add_int (h _ _)) q
theorem sub_ii (q : Q (.pv (.int (a - b))) σ) : W2 C LocRep (binaryOp .Sub) (.pv (.int a)) (.pv (.int b)) σ Q := w2_int (fun _ _ _ _ _ _ _ h => P.sub_int (h _ _)) q
theorem iadd_ii (q : Q (.pv (.int (a + b))) σ) : W2 C LocRep (inplaceOp .Add) (.pv (.int a)) (.pv (.int b)) σ Q := w2_int (fun _ _ _ _ _ _ _ h => P.iadd_int (h _ _)) q
theorem isub_ii (q : Q (.pv (.int (a - b))) σ) : W2 C LocRep (inplaceOp .Sub) (.pv (.int a)) (.pv (.int b)) σ Q := w2_int (fun _ _ _ _ _ _ _ h => P.isub_int (h _ _)) q
theorem mul_ii (hm : IntMulOk a b) (q : Q (.pv (.int (a * b))) σ) : W2 C LocRep (binaryOp .Mult) (.pv (.int a)) (.pv (.int b)) σ Q := w2_int (fun _ _ _ _ _ _ _ h => P.mul_int (h _ _) hm) q
theorem shl_ii (hn : 0 ≤ b) (hn2 : b ≤ 1000000) (ha : a.natAbs < 2 ^ 64) (q : Q (.pv (.int (a * 2 ^ b.toNat))) σ) : W2 C LocRep (binaryOp .LShift) (.pv (.int a)) (.pv (.int b)) σ Q := w2_int (fun _ _ _ _ _ _ _ h => lshift_int_small hn hn2 ha (h _ _)) q
theorem shr_ii (hn : 0 ≤ b) (q : Q (.pv (.int (a.fdiv (2 ^ b.toNat)))) σ) : W2 C LocRep (binaryOp .RShift) (.pv (.int a)) (.pv (.int b)) σ Q := w2_int (fun _ _ _ _ _ _ _ h => rshift_int hn (h _ _)) q
theorem ishr_ii (hn : 0 ≤ b) (q : Q (.pv (.int (a.fdiv (2 ^ b.toNat)))) σ) : W2 C LocRep (inplaceOp .RShift) (.pv (.int a)) (.pv (.int b)) σ Q := w2_int (fun _ _ _ _ _ _ _ h => irshift_int hn (h _ _)) q
theorem and_ii (q : Q (.pv (.int (Builtin.bitAnd a b))) σ) : W2 C LocRep (binaryOp .BitAnd) (.pv (.int a)) (.pv (.int b)) σ Q := w2_int (fun _ _ _ _ _ _ _ h => and_int (h _ _)) q
theorem or_ii (q : Q (.pv (.int (Builtin.bitOr a b))) σ) : W2 C LocRep (binaryOp .BitOr) (.pv (.int a)) (.pv (.int b)) σ Q := w2_int (fun _ _ _ _ _ _ _ h => or_int (h _ _)) q
theorem ior_ii (q : Q (.pv (.int (Builtin.bitOr a b))) σ) : W2 C LocRep (inplaceOp .BitOr) (.pv (.int a)) (.pv (.int b)) σ Q := w2_int (fun _ _ _ _ _ _ _ h => ior_int (h _ _)) q
theorem eq_ii (q : Q (.pv (.bool (a == b))) σ) : W2 C LocRep (compareOp .Eq) (.pv (.int a)) (.pv (.int b)) σ Q := w2_bool (fun _ _ _ _ _ _ h => P.eq_int h) q
theorem ne_ii (q : Q (.pv (.bool (a != b))) σ) : W2 C LocRep (compareOp .NotEq) (.pv (.int a)) (.pv (.int b)) σ Q := w2_bool (fun _ _ _ _ _ _ h => P.ne_int h) q
theorem lt_ii (q : Q (.pv (.bool (decide (a < b)))) σ) : W2 C LocRep (compareOp .Lt) (.pv (.int a)) (.pv (.int b)) σ Q := w2_bool (fun _ _ _ _ _ _ h => P.lt_int h) q
theorem le_ii (q : Q (.pv (.bool (decide (a ≤ b)))) σ) : W2 C LocRep (compareOp .LtE) (.pv (.int a)) (.pv (.int b)) σ Q := w2_bool (fun _ _ _ _ _ _ h => P.le_int h) q
theorem gt_ii (q : Q (.pv (.bool (decide (a > b)))) σ) : W2 C LocRep (compareOp .Gt) (.pv (.int a)) (.pv (.int b)) σ Q := w2_bool (fun _ _ _ _ _ _ h => P.gt_int h) q
theorem ge_ii (q : Q (.pv (.bool (decide (a ≥ b)))) σ) : W2 C LocRep (compareOp .GtE) (.pv (.int a)) (.pv (.int b)) σ Q := w2_bool (fun _ _ _ _ _ _ h => P.ge_int h) q
theorem div_ii (hb : b ≠ 0) (hp : Builtin.divisionGoesByPylong a b = false) (q : Q (.pv (.int (a.fdiv b))) σ) : W2 C LocRep (binaryOp .FloorDiv) (.pv (.int a)) (.pv (.int b)) σ Q := w2_int (fun _ _ _ _ _ _ _ h => floordiv_int hb (h _ _) (.inl hp)) q
theorem mod_ii (hb : b ≠ 0) (q : Q (.pv (.int (a.fmod b))) σ) : W2 C LocRep (binaryOp .Mod) (.pv (.int a)) (.pv (.int b)) σ Q := w2_int (fun _ _ _ _ _ _ _ h => mod_int' hb (h _ _)) q
theorem imod_ii (hb : b ≠ 0) (q : Q (.pv (.int (a.fmod b))) σ) : W2 C LocRep (inplaceOp .Mod) (.pv (.int a)) (.pv (.int b)) σ Q := w2_int (fun _ _ _ _ _ _ _ h => imod_int hb (h _ _)) q
theorem neg_i (q : Q (.pv (.int (-a))) σ) : W1 C LocRep (unaryOp .USub) (.pv (.int a)) σ Q := fun A E s V ads Q' v rm R r g => by
  simp only [LocRep, Rep] at r
  obtain ⟨t, rfl⟩ := r
  exact P.neg_int (g _ _ V ads _ σ (View.Le.refl V) (Pre.refl _) (R.tok _) (by simp only [LocRep, Rep]; exact ⟨_, rfl⟩) q)
end
end

end CR
namespace CR
open PySem PySem.W PyProof.Rows

section
variable {C : Cx} {σ : St}

def Lis (σ : St) : Loc → List PV → Prop
  | .pv p, xs => p = .list xs
  | .own k, xs => σ.O[k]? = some (some xs)

theorem lis_at {V : View} {ads : List Addr} {s : Shared} {r : Loc} {v : Value} {xs : List PV} (R : C.R σ V ads s) (hr : LocRep V ads r v) (h : Lis σ r xs) :
    ∃ l vs n, v = .ref l ∧ s.heap.get? l = some (lst vs n) ∧ Reps V xs vs.toList := by
  cases r with
  | pv p =>
    simp only [Lis] at h
    subst h
    simp only [LocRep, Rep] at hr
    obtain ⟨l, vs, n, e, hl, hs⟩ := hr
    exact ⟨l, vs, n, e, R.sees _ _ hl, hs⟩
  | own k =>
    obtain ⟨l, vs, n, h1, h2, h3, _⟩ := R.own k xs h
    obtain ⟨a, h4, e⟩ := hr
    rw [h1] at h4; cases h4
    exact ⟨l, vs, n, e, h2, h3⟩

/-- a new list, frozen at once or kept as one's own -/
def New (σ : St) (xs : List PV) (Q : Loc → St → Prop) : Prop := Q (.pv (.list xs)) σ ∨ Q (.own σ.O.length) (σ.addO xs)

theorem fresh_none {V : View} {ads : List Addr} {s : Shared} (R : C.R σ V ads s) {a : Addr} (ha : s.heap.objs.size ≤ a) :
    V a = none ∧ C.bs.kv a = none ∧ a ≠ C.env.locals ∧ (∀ x, C.env.cells.lookup x ≠ some a) ∧ a ∉ ads := by
  have hn : s.heap.get? a = none := get?_ge ha
  refine ⟨R.sees.none_of hn, R.keep.none_of hn, ?_, fun x e => ?_, fun h => ?_⟩
  · obtain ⟨m, h, _⟩ := R.frame
    exact Nat.ne_of_gt (Nat.lt_of_lt_of_le h.lt ha)
  · obtain ⟨o, h⟩ := R.cex x a e
    rw [hn] at h; cases h
  · obtain ⟨o, e⟩ := R.aex a h
    rw [hn] at e; cases e

theorem Rel.addO {V : View} {ads : List Addr} {s s' : Shared} (R : C.R σ V ads s) (e : ∃ h t, s' = { s with heap := h, toks := t }) (k : ∀ b o, s.heap.get? b = some o → s'.heap.get? b = some o)
    {a : Addr} {vs : Array Value} {n : Nat} {xs : List PV} (ha : s.heap.objs.size ≤ a) (hg : s'.heap.get? a = some (lst vs n)) (rs : Reps V xs vs.toList) : C.R (σ.addO xs) V (ads ++ [a]) s' where
  same := (R.keeps e k).same
  sees := (R.keeps e k).sees
  glob := R.glob
  keep := (R.keeps e k).keep
  vnew := R.vnew
  frame := by
    obtain ⟨m, hN, hx⟩ := (R.keeps e k).frame
    refine ⟨m, hN, fun x l e => ?_⟩
    obtain ⟨v, h1, h2⟩ := hx x l e
    exact ⟨v, h1.mono (View.Le.refl V) ⟨[a], rfl⟩, h2⟩
  Lnew := R.Lnew
  hL := R.hL
  kL := R.kL
  cells := (R.keeps e k).cells
  olen := by rw [List.length_append, List.length_append, R.olen]; rfl
  own := fun j ys h => by
    by_cases hj : j < σ.O.length
    · rw [List.getElem?_append_left hj] at h
      obtain ⟨l, us, m, h1, h2, h3, h4, h5⟩ := (R.keeps e k).own j ys h
      exact ⟨l, us, m, by rw [List.getElem?_append_left (by rw [R.olen]; exact hj)]; exact h1, h2, h3, h4, h5⟩
    · have hj' := (List.getElem?_eq_some_iff.mp h).1
      rw [List.length_append] at hj'
      have hj2 : j = σ.O.length := by simp only [List.length_cons, List.length_nil] at hj'; lia
      subst hj2
      rw [List.getElem?_append_right (Nat.le_refl _), Nat.sub_self] at h
      simp only [List.getElem?_cons_zero, Option.some.injEq] at h
      subst h
      refine ⟨a, vs, n, ?_, hg, rs, (fresh_none R ha).1, (fresh_none R ha).2.1⟩
      rw [List.getElem?_append_right (by rw [R.olen]; exact Nat.le_refl _), R.olen, Nat.sub_self]; rfl
  inj := List.nodup_append.mpr ⟨R.inj, by simp, fun x hx y hy => by
    rw [List.mem_singleton] at hy
    subst hy
    exact fun e => (fresh_none R ha).2.2.2.2 (e ▸ hx)⟩
  onew := fun j l hl h => by
    by_cases hj : j < ads.length
    · rw [List.getElem?_append_left hj] at h
      exact R.onew j l hl h
    · rw [List.getElem?_append_right (Nat.not_lt.mp hj)] at h
      have : l = a := by
        have := List.mem_of_getElem? h
        simpa using this
      subst this
      exact Nat.le_trans (Nat.le_of_lt R.size) ha
  lentP := R.lentP.trans ⟨[a], rfl⟩
  aex := fun l hl => by
    rcases List.mem_append.mp hl with h | h
    · exact (R.aex l h).imp fun o h => k _ _ h
    · rw [List.mem_singleton] at h; subst h; exact ⟨_, hg⟩
  akv := fun l hl => by
    rcases List.mem_append.mp hl with h | h
    · exact R.akv l h
    · rw [List.mem_singleton] at h; subst h; exact (fresh_none R ha).2.1
  cex := fun x c e => (R.cex x c e).imp fun o h => k _ _ h
  adL := fun h => by
    rcases List.mem_append.mp h with h | h
    · exact R.adL h
    · rw [List.mem_singleton] at h; exact (fresh_none R ha).2.2.1 h.symm
  adC := fun x c e h => by
    rcases List.mem_append.mp h with h | h
    · exact R.adC x c e h
    · rw [List.mem_singleton] at h; exact (fresh_none R ha).2.2.2.1 x (h ▸ e)

theorem Rel.addV {V : View} {ads : List Addr} {s s' : Shared} (R : C.R σ V ads s) (e : ∃ h t, s' = { s with heap := h, toks := t }) (k : ∀ b o, s.heap.get? b = some o → s'.heap.get? b = some o)
    {a : Addr} {ob : Obj} (ha : s.heap.objs.size ≤ a) (hg : s'.heap.get? a = some ob) : C.R σ (V.add a ob) ads s' ∧ V.Le (V.add a ob) := by
  have F := fresh_none R ha
  refine ⟨(R.keeps e k).grow (View.le_add F.1) (fun b o h => ?_) (fun b o h => ?_), View.le_add F.1⟩
  · rcases View.add_cases h with ⟨rfl, rfl⟩ | ⟨_, h⟩
    · exact hg
    · exact (R.keeps e k).sees b o h
  · rcases View.add_cases h with ⟨rfl, rfl⟩ | ⟨_, h⟩
    · exact .inr ⟨Nat.le_trans (Nat.le_of_lt R.size) ha, F.2⟩
    · exact .inl ⟨o, h⟩
theorem New.goes {V : View} {ads : List Addr} {s s' : Shared} {Q : Loc → St → Prop} {Q' : Value → Shared → Prop} (R : C.R σ V ads s) (g : Goes C LocRep Q V ads Q') (e : ∃ h t, s' = { s with heap := h, toks := t })
    (k : ∀ b o, s.heap.get? b = some o → s'.heap.get? b = some o) {a : Addr} {vs : Array Value} {n : Nat} {xs : List PV} (ha : s.heap.objs.size ≤ a) (hg : s'.heap.get? a = some (lst vs n)) (rs : Reps V xs vs.toList) (q : New σ xs Q) : Q' (.ref a) s' := by
  rcases q with q | q
  · obtain ⟨R', le⟩ := R.addV e k ha hg
    refine g _ s' _ ads _ σ le (Pre.refl _) R' ?_ q
    simp only [LocRep, Rep]
    exact ⟨a, vs, n, rfl, View.add_self, Reps.mono le _ rs⟩
  · refine g _ s' V (ads ++ [a]) (.own σ.O.length) _ (View.Le.refl V) ⟨[a], rfl⟩ (R.addO e k ha hg rs) ⟨a, ?_, rfl⟩ q
    rw [← R.olen, List.getElem?_append_right (Nat.le_refl _), Nat.sub_self]; rfl

theorem push_keeps {s : Shared} (o : Obj) : ∀ b o', s.heap.get? b = some o' → (s.heap.push o).get? b = some o' := fun _ _ e => Heap.get?_push_of_some _ e

/-! displays -/
theorem e_list {es : List Expr} {pos : Pos} {Q : Loc → St → Prop} (h : WL C es pos σ fun rs σ₁ => ∃ xs, (rs = xs.map Loc.pv) ∧ xs.length ≤ 1000 ∧ New σ₁ xs Q) : WE C (.List es pos) σ Q := fun A E s V ads Q' rm R g => by
  refine wpAny_List (h A E s V ads _ rm R fun vs s₁ V₁ ads₁ rs σ₁ le₁ pr₁ R₁ r₁ h₁ => ?_)
  obtain ⟨xs, rfl, hx, q⟩ := h₁
  have rs : ∀ (xs : List PV) (vs : List Value), Locs V₁ ads₁ (xs.map Loc.pv) vs → Reps V₁ xs vs := by
    intro xs
    induction xs with
    | nil => intro vs h; rw [show vs = [] from h]; exact .nil
    | cons x xs ih =>
      intro vs h
      obtain ⟨v, vs', rfl, hv, hs⟩ := h
      exact .cons hv (ih _ hs)
  have r := rs _ _ r₁
  refine ⟨by rw [r.length, sizeLine_eq]; lia, ?_⟩
  exact q.goes R₁ (g.later le₁ pr₁) ⟨_, _, rfl⟩ (push_keeps _) (Nat.le_refl _) (Heap.get?_push_size _ rfl) (by simpa using r)
theorem e_tuple {es : List Expr} {k : Nat} {pos : Pos} {Q : Loc → St → Prop} (h : WL C es pos σ fun rs σ₁ => ∃ xs, (rs = xs.map Loc.pv) ∧ xs.length ≤ 1000 ∧ Q (.pv (.tup xs)) σ₁) : WE C (.Tuple es k pos) σ Q := fun A E s V ads Q' rm R g => by
  refine wpAny_Tuple (h A E s V ads _ rm R fun vs s₁ V₁ ads₁ rs σ₁ le₁ pr₁ R₁ r₁ h₁ => ?_)
  obtain ⟨xs, rfl, hx, q⟩ := h₁
  have rs : ∀ (xs : List PV) (vs : List Value), Locs V₁ ads₁ (xs.map Loc.pv) vs → Reps V₁ xs vs := by
    intro xs
    induction xs with
    | nil => intro vs h; rw [show vs = [] from h]; exact .nil
    | cons x xs ih =>
      intro vs h
      obtain ⟨v, vs', rfl, hv, hs⟩ := h
      exact .cons hv (ih _ hs)
  have r := rs _ _ r₁
  refine ⟨by rw [r.length, sizeLine_eq]; lia, ?_⟩
  obtain ⟨R', le⟩ := R₁.addV (s' := { s₁ with heap := s₁.heap.push (tpl vs.toArray 0) }) ⟨_, _, rfl⟩ (push_keeps _) (Nat.le_refl _) (Heap.get?_push_size _ rfl)
  refine g _ _ _ _ _ σ₁ (le₁.trans le) pr₁ R' ?_ q
  simp only [LocRep, Rep]
  exact ⟨_, _, _, rfl, View.add_self, Reps.mono le _ (by simpa using r)⟩

/-! places of lists and tuples -/
theorem e_sub {o i : Expr} {pos : Pos} {Q : Loc → St → Prop} (h : WE C o σ fun a σ₁ => WE C i σ₁ fun b σ₂ => W2 C LocRep (subscriptTail o i) a b σ₂ Q) : WE C (.Subscript o i pos) σ Q := fun A E s V ads Q' rm R g =>
  Subscript_ (h A E s V ads _ rm R fun v s₁ V₁ ads₁ a σ₁ le₁ pr₁ R₁ r₁ h₁ =>
    h₁ A E s₁ V₁ ads₁ _ rm R₁ fun v' s₂ V₂ ads₂ b σ₂ le₂ pr₂ R₂ r₂ h₂ => h₂ A E s₂ V₂ ads₂ Q' v v' rm R₂ (r₁.mono le₂ pr₂) r₂ (g.later (le₁.trans le₂) (pr₁.trans pr₂)))
theorem ix_list {value slice : Expr} {r : Loc} {k : Int} {xs : List PV} {x : PV} {Q : Loc → St → Prop} (hl : Lis σ r xs) (h0 : 0 ≤ k) (hk : k < 1000000000) (hx : xs[k.toNat]? = some x) (q : Q (.pv x) σ)
    (hs : ∀ o i, subscripted slice false o i = operate [o, i] (getItem o i) := by intro _ _; with_unfolding_all rfl) : W2 C LocRep (subscriptTail value slice) r (.pv (.int k)) σ Q := fun A E s V ads Q' v v' rm R r₁ r₂ g => by
  obtain ⟨l, vs, n, rfl, hg, rs⟩ := lis_at R r₁ hl
  simp only [LocRep, Rep] at r₂
  obtain ⟨t, rfl⟩ := r₂
  obtain ⟨y, hy, ry⟩ := rs.get hx
  have hL : s.heap.IsList l vs := ⟨_, hg, rfl, n, rfl⟩
  exact tail_any hL.typeIs slot_list_getitem.lookup (wpAny_getItem_list hL h0 (by lia) (by simpa using hy) (g y s V ads (.pv x) σ (View.Le.refl V) (Pre.refl _) R ry q)) (hs _ _)
theorem ix_last {value slice : Expr} {r : Loc} {xs : List PV} {x : PV} {Q : Loc → St → Prop} (hl : Lis σ r xs) (hx : xs.getLast? = some x) (hz : xs.length ≤ 1000000) (q : Q (.pv x) σ)
    (hs : ∀ o i, subscripted slice false o i = operate [o, i] (getItem o i) := by intro _ _; with_unfolding_all rfl) : W2 C LocRep (subscriptTail value slice) r (.pv (.int (-1))) σ Q := fun A E s V ads Q' v v' rm R r₁ r₂ g => by
  obtain ⟨l, vs, n, rfl, hg, rs⟩ := lis_at R r₁ hl
  simp only [LocRep, Rep] at r₂
  obtain ⟨t, rfl⟩ := r₂
  rw [List.getLast?_eq_getElem?] at hx
  obtain ⟨y, hy, ry⟩ := rs.get hx
  have hlen := rs.length
  have hpos : 0 < xs.length := by
    have := (List.getElem?_eq_some_iff.mp hx).1
    lia
  have hsz : vs.size = xs.length := by simpa using hlen
  have hL : s.heap.IsList l vs := ⟨_, hg, rfl, n, rfl⟩
  refine tail_any hL.typeIs slot_list_getitem.lookup (wpAny_getItem_list_neg hL (by lia) (by lia) (by lia) ?_ (g y s V ads (.pv x) σ (View.Le.refl V) (Pre.refl _) R ry q)) (hs _ _)
  have e : ((-1 : Int) + (vs.size : Int)).toNat = xs.length - 1 := by lia
  rw [e]
  simpa using hy
theorem ix_tup {value slice : Expr} {k : Nat} {xs : List PV} {x : PV} {Q : Loc → St → Prop} (hk : k < 1000) (hx : xs[k]? = some x) (q : Q (.pv x) σ)
    (hs : ∀ o i, subscripted slice false o i = operate [o, i] (getItem o i) := by intro _ _; with_unfolding_all rfl) : W2 C LocRep (subscriptTail value slice) (.pv (.tup xs)) (.pv (.int k)) σ Q := fun A E s V ads Q' v v' rm R r₁ r₂ g => by
  simp only [LocRep, Rep] at r₁ r₂
  obtain ⟨l, vs, n, rfl, hl, rs⟩ := r₁
  obtain ⟨t, rfl⟩ := r₂
  obtain ⟨y, hy, ry⟩ := rs.get hx
  have hlt : k < vs.toList.length := (List.getElem?_eq_some_iff.mp hy).1
  refine item_tupleT (l := vs.toList) (j := k) ⟨_, R.sees _ _ hl, rfl, n, by simp⟩ (by lia) (by lia) ?_ hy (g y s V ads (.pv x) σ (View.Le.refl V) (Pre.refl _) R ry q) (hs _ _)
  unfold seqIndex?
  simp only [Int.natCast_nonneg]
  split <;> simp_all <;> lia

end

end CR
namespace CR
open PySem PySem.W PyProof.Rows

section
variable {C : Cx} {σ : St}

theorem Goes.at {α β : Type} {Rp : View → List Addr → α → β → Prop} {Q : α → St → Prop} {V : View} {ads : List Addr} {s : Shared} {Q' : β → Shared → Prop} (g : Goes C Rp Q V ads Q') (R : C.R σ V ads s) {a : α} {b : β} (r : Rp V ads a b) (q : Q a σ) : Q' b s :=
  g b s V ads a σ (View.Le.refl V) (Pre.refl _) R r q

/-! slices -/
def PartRep (V : View) (ads : List Addr) (p : Option Int) (v : Value) : Prop := IsPart v p
abbrev WO (C : Cx) (e : Option Expr) (σ : St) (Q : Option Int → St → Prop) : Prop := W C PartRep (valueOrNone (evalOpt e C.env)) σ Q
theorem o_none {Q : Option Int → St → Prop} (q : Q none σ) : WO C none σ Q := fun A E s V ads Q' rm R g =>
  wpAny_pure (g.at R (show PartRep V ads none .none from IsPart.none) q)
theorem o_some {e : Expr} {Q : Option Int → St → Prop} (h : WE C e σ fun r σ₁ => ∃ i, r = .pv (.int i) ∧ Q (some i) σ₁) : WO C (some e) σ Q := fun A E s V ads Q' rm R g => by
  show wpAny _ A (eval e C.env) Q' E s
  refine h A E s V ads Q' rm R fun v s₁ V₁ ads₁ r σ₁ le₁ pr₁ R₁ r₁ h₁ => ?_
  obtain ⟨i, rfl, q⟩ := h₁
  simp only [LocRep, Rep] at r₁
  obtain ⟨t, rfl⟩ := r₁
  exact g _ s₁ V₁ ads₁ (some i) σ₁ le₁ pr₁ R₁ (IsPart.int i t) q

def SliceW (C : Cx) (value slice : Expr) (a : Loc) (p q t : Option Int) (σ : St) (Q : Loc → St → Prop) : Prop :=
  ∀ (A : Around) (E : Value → Shared → Prop) (s : Shared) (V : View) (ads : List Addr) (Q' : Value → Shared → Prop) (v vl vu vt : Value), RoomF A C.d C.fr → C.R σ V ads s → LocRep V ads a v → IsPart vl p → IsPart vu q → IsPart vt t → Goes C LocRep Q V ads Q' →
    wpAny (model C.prog C.w) A (subscriptTail value slice v (.ref s.heap.objs.size)) Q' E { s with heap := s.heap.push { cls := .type "slice", data := .fields #[vl, vu, vt] } }

theorem slice_gen {value slice : Expr} {a : Loc} {p q t : Option Int} {xs ys : List PV} {Q : Loc → St → Prop} (hl : Lis σ a xs) (ht : t ≠ some 0) (hz : xs.length ≤ 1000000)
    (hp : ∀ (V : View) (vs : Array Value), Reps V xs vs.toList → Reps V ys (slicePick vs p q t).toList) (hq : New σ ys Q)
    (hs : ∀ o i, subscripted slice false o i = operate [i, o] (getItem o i) ∨ subscripted slice false o i = operate [o, i] (getItem o i) := by intro _ _; first | exact .inl (by with_unfolding_all rfl) | exact .inr (by with_unfolding_all rfl)) : SliceW C value slice a p q t σ Q := fun A E s V ads Q' v vl vu vt rm R r il iu it g => by
  obtain ⟨l, vs, n, rfl, hg, rs⟩ := lis_at R r hl
  have hlen := rs.length
  have hsz : vs.size = xs.length := by simpa using hlen
  have hL : s.heap.IsList l vs := ⟨_, hg, rfl, n, rfl⟩
  have fin := wpAny_getItem_list_slice (prog := C.prog) (w := C.w) (A := A) (E := E) (Q := Q') (s := { s with heap := s.heap.push { cls := .type "slice", data := .fields #[vl, vu, vt] } }) (hL.push _) (Heap.IsSliceOf.new ..) il iu it ht
    (hq.goes (a := s.heap.objs.size + 1) (n := 0) R g ⟨_, _, rfl⟩ (fun b o e => Heap.get?_push_of_some _ (Heap.get?_push_of_some _ e)) (by lia) (by
      have := Heap.get?_push_size (s.heap.push { cls := .type "slice", data := .fields #[vl, vu, vt] }) (o := lst (slicePick vs p q t) 0) rfl
      rwa [Heap.size_push] at this) (hp V vs rs) |> fun z => by
        show Q' (.ref (s.heap.push _).objs.size) _
        rw [Heap.size_push]; exact z) (by rw [sizeLine_eq]; lia)
  rcases hs (.ref l) (.ref s.heap.objs.size) with e | e
  · exact tail_any (Heap.IsList.typeIs (s := { s with heap := s.heap.push { cls := .type "slice", data := .fields #[vl, vu, vt] } }) (hL.push _)) list_getitem_lookup fin e
  · exact tail_any (Heap.IsList.typeIs (s := { s with heap := s.heap.push { cls := .type "slice", data := .fields #[vl, vu, vt] } }) (hL.push _)) list_getitem_lookup fin e

theorem e_slice {o : Expr} {lo up st : Option Expr} {ps pos : Pos} {Q : Loc → St → Prop}
    (h : WE C o σ fun a σ₁ => WO C lo σ₁ fun p σ₂ => WO C up σ₂ fun q σ₃ => WO C st σ₃ fun t σ₄ => SliceW C o (.Slice lo up st ps) a p q t σ₄ Q) : WE C (.Subscript o (.Slice lo up st ps) pos) σ Q := fun A E s V ads Q' rm R g => by
  refine Subscript_ (h A E s V ads _ rm R fun v s₁ V₁ ads₁ a σ₁ le₁ pr₁ R₁ r₁ h₁ => ?_)
  show wpAny _ A (do
    let l ← valueOrNone (evalOpt lo C.env)
    let u ← holding [l] (valueOrNone (evalOpt up C.env))
    let s ← holding [l, u] (valueOrNone (evalOpt st C.env))
    newFields "slice" [l, u, s]) _ E s₁
  refine wpAny_bind (h₁ A E s₁ V₁ ads₁ _ rm R₁ fun vl s₂ V₂ ads₂ p σ₂ le₂ pr₂ R₂ r₂ h₂ => ?_)
  refine wpAny_bind (wpAny_holding (h₂ A E s₂ V₂ ads₂ _ rm R₂ fun vu s₃ V₃ ads₃ q σ₃ le₃ pr₃ R₃ r₃ h₃ => ?_))
  refine wpAny_bind (wpAny_holding (h₃ A E s₃ V₃ ads₃ _ rm R₃ fun vt s₄ V₄ ads₄ t σ₄ le₄ pr₄ R₄ r₄ h₄ => ?_))
  refine wpAny_newObj_type ?_ (by size_fits)
  exact h₄ A E s₄ V₄ ads₄ Q' v vl vu vt rm R₄ (r₁.mono (le₂.trans (le₃.trans le₄)) (pr₂.trans (pr₃.trans pr₄))) r₂ r₃ r₄ (g.later (le₁.trans (le₂.trans (le₃.trans le₄))) (pr₁.trans (pr₂.trans (pr₃.trans pr₄))))

section
variable {value : Expr} {slice : Expr} {a : Loc} {xs : List PV} {Q : Loc → St → Prop}
theorem sl_all {lo up st : Option Expr} {ps : Pos} (hl : Lis σ a xs) (hz : xs.length ≤ 1000000) (hq : New σ xs Q) (hs : ∀ o i, subscripted (.Slice lo up st ps) false o i = operate [i, o] (getItem o i) ∨ subscripted (.Slice lo up st ps) false o i = operate [o, i] (getItem o i) := by intro _ _; first | exact .inl (by with_unfolding_all rfl) | exact .inr (by with_unfolding_all rfl)) : SliceW C value (.Slice lo up st ps) a none none none σ Q :=
  slice_gen hl (by simp) hz (fun V vs r => by rw [slicePick_all]; exact r) hq hs
theorem sl_upto {lo up st : Option Expr} {ps : Pos} {b : Int} (hl : Lis σ a xs) (hb : 0 ≤ b) (hz : xs.length ≤ 1000000) (hq : New σ (xs.take b.toNat) Q) (hs : ∀ o i, subscripted (.Slice lo up st ps) false o i = operate [i, o] (getItem o i) ∨ subscripted (.Slice lo up st ps) false o i = operate [o, i] (getItem o i) := by intro _ _; first | exact .inl (by with_unfolding_all rfl) | exact .inr (by with_unfolding_all rfl)) : SliceW C value (.Slice lo up st ps) a none (some b) none σ Q :=
  slice_gen hl (by simp) hz (fun V vs r => by
    obtain ⟨k, rfl⟩ := Int.eq_ofNat_of_zero_le hb
    rw [slicePick_upto']
    simpa using r.take k) hq hs
theorem sl_from {lo up st : Option Expr} {ps : Pos} {b : Int} (hl : Lis σ a xs) (hb : 0 ≤ b) (hz : xs.length ≤ 1000000) (hq : New σ (xs.drop b.toNat) Q) (hs : ∀ o i, subscripted (.Slice lo up st ps) false o i = operate [i, o] (getItem o i) ∨ subscripted (.Slice lo up st ps) false o i = operate [o, i] (getItem o i) := by intro _ _; first | exact .inl (by with_unfolding_all rfl) | exact .inr (by with_unfolding_all rfl)) : SliceW C value (.Slice lo up st ps) a (some b) none none σ Q :=
  slice_gen hl (by simp) hz (fun V vs r => by
    obtain ⟨k, rfl⟩ := Int.eq_ofNat_of_zero_le hb
    rw [slicePick_from']
    simpa using r.drop k) hq hs
theorem sl_mid {lo up st : Option Expr} {ps : Pos} {b c : Int} (hl : Lis σ a xs) (hb : 0 ≤ b) (hc : b ≤ c) (hn : c ≤ xs.length) (hz : xs.length ≤ 1000000) (hq : New σ ((xs.drop b.toNat).take (c.toNat - b.toNat)) Q) (hs : ∀ o i, subscripted (.Slice lo up st ps) false o i = operate [i, o] (getItem o i) ∨ subscripted (.Slice lo up st ps) false o i = operate [o, i] (getItem o i) := by intro _ _; first | exact .inl (by with_unfolding_all rfl) | exact .inr (by with_unfolding_all rfl)) : SliceW C value (.Slice lo up st ps) a (some b) (some c) none σ Q :=
  slice_gen hl (by simp) hz (fun V vs r => by
    have hlen := r.length
    have hsz : vs.size = xs.length := by simpa using hlen
    obtain ⟨k, rfl⟩ := Int.eq_ofNat_of_zero_le hb
    obtain ⟨j, rfl⟩ := Int.eq_ofNat_of_zero_le (Int.le_trans hb hc)
    rw [slicePick_run vs k j (by lia) (by lia)]
    simpa using (r.drop k).take (j - k)) hq hs
theorem sl_butlast {lo up st : Option Expr} {ps : Pos} (hl : Lis σ a xs) (hz : xs.length ≤ 1000000) (hq : New σ (xs.take (xs.length - 1)) Q) (hs : ∀ o i, subscripted (.Slice lo up st ps) false o i = operate [i, o] (getItem o i) ∨ subscripted (.Slice lo up st ps) false o i = operate [o, i] (getItem o i) := by intro _ _; first | exact .inl (by with_unfolding_all rfl) | exact .inr (by with_unfolding_all rfl)) : SliceW C value (.Slice lo up st ps) a none (some (-1)) none σ Q :=
  slice_gen hl (by simp) hz (fun V vs r => by
    have hlen := r.length
    have hsz : vs.size = xs.length := by simpa using hlen
    have := slicePick_butLast vs 1 (Nat.le_refl 1)
    rw [show (-1 : Int) = -((1 : Nat) : Int) from rfl, this]
    simpa [hsz] using r.take (xs.length - 1)) hq hs
theorem sl_rev {lo up st : Option Expr} {ps : Pos} (hl : Lis σ a xs) (hz : xs.length ≤ 1000000) (hq : New σ xs.reverse Q) (hs : ∀ o i, subscripted (.Slice lo up st ps) false o i = operate [i, o] (getItem o i) ∨ subscripted (.Slice lo up st ps) false o i = operate [o, i] (getItem o i) := by intro _ _; first | exact .inl (by with_unfolding_all rfl) | exact .inr (by with_unfolding_all rfl)) : SliceW C value (.Slice lo up st ps) a none none (some (-1)) σ Q :=
  slice_gen hl (by simp) hz (fun V vs r => by
    rw [krv_pick]
    simpa using r.reverse) hq hs
end

/-! lists as operands -/
theorem add_ll {a b : Loc} {xs ys : List PV} {Q : Loc → St → Prop} (ha : Lis σ a xs) (hb : Lis σ b ys) (hz : xs.length + ys.length ≤ 1000000) (hq : New σ (xs ++ ys) Q) : W2 C LocRep (binaryOp .Add) a b σ Q := fun A E s V ads Q' v v' rm R r₁ r₂ g => by
  obtain ⟨l, vs, n, rfl, hg, rs⟩ := lis_at R r₁ ha
  obtain ⟨l', vs', n', rfl, hg', rs'⟩ := lis_at R r₂ hb
  have h1 := rs.length
  have h2 := rs'.length
  simp only [Array.length_toList] at h1 h2
  exact P.add_list hg hg' (hq.goes R g ⟨_, _, rfl⟩ (push_keeps _) (Nat.le_refl _) (Heap.get?_push_size _ rfl) (by simpa using rs.append rs')) (by rw [sizeLine_eq]; lia)

theorem foldl_one (v : Value) : ∀ (k : Nat) (acc : Array Value), (List.foldl (fun x1 x2 => x1 ++ x2) acc (List.replicate k #[v])).toList = acc.toList ++ List.replicate k v
  | 0, acc => by simp
  | k + 1, acc => by
    rw [List.replicate_succ, List.foldl_cons, foldl_one v k]
    simp [List.replicate_succ]

theorem mul_li {a : Loc} {x : PV} {k : Int} {Q : Loc → St → Prop} (ha : Lis σ a [x]) (hk : 0 ≤ k) (hz : k ≤ 1000000) (hq : New σ (List.replicate k.toNat x) Q) : W2 C LocRep (binaryOp .Mult) a (.pv (.int k)) σ Q := fun A E s V ads Q' v v' rm R r₁ r₂ g => by
  obtain ⟨l, vs, n, rfl, hg, rs⟩ := lis_at R r₁ ha
  simp only [LocRep, Rep] at r₂
  obtain ⟨u, rfl⟩ := r₂
  obtain ⟨y, ys, hv, hy, rs'⟩ := rs.cons_inv
  rw [rs'.nil_inv] at hv
  have hvs : vs = #[y] := by
    apply Array.toList_inj.mp; simpa using hv
  subst hvs
  refine wpAny_binaryOp_repeat_ref (T := "list") (U := "int") (by decide) ⟨_, hg, rfl⟩ (fun s' => typeIs_int s' k u) noFill_list_mul F.fills_int_mul F.slot_int_rmul repeat_list F.slot_int_index.lookup
    (call_meets F.slot_int_rmul (typeIs_int s k u) F.entry_int_rmul (F.args_int_rmul_2 _ _) (int___rmul___int_list k u l #[y] n)
      ⟨hg, rfl, ⟨_, hg, rfl⟩, call_meets F.slot_list_mul ⟨_, hg, rfl⟩ F.entry_list_mul (F.args_list_mul_2 _ _)
        (AutoListH.list___mul___list_int_3 l #[y] n k u (by simp [Builtin.List.listFitsIndex]; lia) (by rw [show (#[y] : Array Value).size = 1 from rfl]; lia) (by simp [Builtin.List.listTooLong, sizeLine]; lia))
        ⟨hg, ?_⟩⟩)
  refine hq.goes R g ⟨_, _, rfl⟩ (push_keeps _) (Nat.le_refl _) (Heap.get?_push_size _ rfl) ?_
  have e : (if (#[y] : Array Value).isEmpty = true then 0 else k.toNat) = k.toNat := if_neg (by simp)
  rw [e, foldl_one]
  simpa using Reps.replicate hy k.toNat
end

end CR
namespace CR
open PySem PySem.W PyProof.Rows

section
variable {C : Cx} {σ : St}

theorem ns_ne_list {h : Heap} {L l : Addr} {m : Str → Option Value} {vs : Array Value} {n : Nat} (hN : h.Ns L m) (hg : h.get? l = some (lst vs n)) : L ≠ l := fun e => by
  obtain ⟨o, es, ep, ho, hd, _⟩ := hN
  rw [e, hg] at ho; cases ho; cases hd
theorem cell_ne_list {h : Heap} {c l : Addr} {v : Option Value} {vs : Array Value} {n : Nat} (hN : h.IsCell c v) (hg : h.get? l = some (lst vs n)) : c ≠ l := fun e => by
  obtain ⟨o, ho, hd⟩ := hN
  rw [e, hg] at ho; cases ho; cases hd
theorem cell_ne_ns {h : Heap} {c L : Addr} {v : Option Value} {m : Str → Option Value} (hN : h.IsCell c v) (hg : h.Ns L m) : c ≠ L := fun e => by
  obtain ⟨o, ho, hd⟩ := hN
  obtain ⟨o', es, ep, ho', hd', _⟩ := hg
  rw [e, ho'] at ho; cases ho; rw [hd] at hd'; cases hd'
theorem isCell_but {h h' : Heap} {c l : Addr} {v : Option Value} (x : h.IsCell c v) (k : ∀ b o, b ≠ l → h.get? b = some o → h'.get? b = some o) (ne : c ≠ l) : h'.IsCell c v :=
  let ⟨o, ho, hd⟩ := x; ⟨o, k _ _ ne ho, hd⟩
theorem ns_but {h h' : Heap} {c l : Addr} {m : Str → Option Value} (x : h.Ns c m) (k : ∀ b o, b ≠ l → h.get? b = some o → h'.get? b = some o) (ne : c ≠ l) : h'.Ns c m :=
  let ⟨o, es, ep, ho, hd⟩ := x; ⟨o, es, ep, k _ _ ne ho, hd⟩

theorem Rel.setO {V : View} {ads : List Addr} {s s' : Shared} {k : Nat} {l : Addr} {xs ys : List PV} {vs : Array Value} {n : Nat} (R : C.R σ V ads s) (hk : σ.O[k]? = some (some xs)) (hl : ads[k]? = some l)
    (e : ∃ h t, s' = { s with heap := h, toks := t }) (kp : ∀ b o, b ≠ l → s.heap.get? b = some o → s'.heap.get? b = some o) (hg : s'.heap.get? l = some (lst vs n)) (rs : Reps V ys vs.toList) : C.R (σ.setO k (some ys)) V ads s' := by
  obtain ⟨l', us, m, h1, h2, h3, h4, h5⟩ := R.own k xs hk
  rw [hl] at h1; cases h1
  exact {
    same := by
      obtain ⟨h, t, rfl⟩ := e
      obtain ⟨h', t', e'⟩ := R.same
      exact ⟨h, t, by rw [e']⟩
    sees := fun b o hb => kp b o (fun q => by rw [q, h4] at hb; cases hb) (R.sees b o hb)
    glob := R.glob
    keep := fun b o hb => kp b o (fun q => by rw [q, h5] at hb; cases hb) (R.keep b o hb)
    vnew := R.vnew
    frame := by
      obtain ⟨m, hN, hx⟩ := R.frame
      refine ⟨m, ns_but hN kp (ns_ne_list hN h2), fun x lc ex => ?_⟩
      obtain ⟨v, q1, q2⟩ := hx x lc ex
      exact ⟨v, q1, q2.imp id fun ⟨a, c, b, d⟩ => ⟨a, c, b, isCell_but d kp (cell_ne_list d h2)⟩⟩
    Lnew := R.Lnew
    hL := R.hL
    kL := R.kL
    cells := fun hc x c ex => by
      obtain ⟨⟨v, q1⟩, q2⟩ := R.cells hc x c ex
      exact ⟨⟨v, isCell_but q1 kp (cell_ne_list q1 h2)⟩, q2⟩
    olen := by rw [List.length_set]; exact R.olen
    own := fun j zs hj => by
      by_cases q : j = k
      · subst q
        rw [List.getElem?_set_self (List.getElem?_eq_some_iff.mp hk).1] at hj
        cases hj
        exact ⟨l, vs, n, hl, hg, rs, h4, h5⟩
      · rw [List.getElem?_set_ne (Ne.symm q)] at hj
        obtain ⟨l', us', m', q1, q2, q3, q4, q5⟩ := R.own j zs hj
        refine ⟨l', us', m', q1, kp _ _ (fun e => ?_) q2, q3, q4, q5⟩
        subst e
        exact q ((List.getElem?_inj (List.getElem?_eq_some_iff.mp q1).1 R.inj).mp (q1.trans hl.symm))
    inj := R.inj
    onew := R.onew
    lentP := R.lentP
    aex := fun a ha => by
      by_cases q : a = l
      · exact ⟨_, q ▸ hg⟩
      · obtain ⟨o, ho⟩ := R.aex a ha
        exact ⟨o, kp _ _ q ho⟩
    akv := R.akv
    cex := fun x c e => by
      by_cases q : c = l
      · exact ⟨_, q ▸ hg⟩
      · exact (R.cex x c e).imp fun o h => kp _ _ q h
    adL := R.adL, adC := R.adC }

/-- an owned list is frozen -/
def frz (k : Nat) (xs : List PV) : Loc → Loc
  | .own j => if j = k then .pv (.list xs) else .own j
  | l => l
def St.freeze (σ : St) (k : Nat) (xs : List PV) : St := { ρ := σ.ρ.map fun p => (p.1, frz k xs p.2), O := σ.O.set k none }
theorem lookup_map_frz (k : Nat) (xs : List PV) : ∀ (ρ : List (Str × Loc)) (x : Str), (ρ.map fun p => (p.1, frz k xs p.2)).lookup x = (ρ.lookup x).map (frz k xs)
  | [], _ => rfl
  | (y, l) :: r, x => by
    rw [List.map_cons, List.lookup_cons, List.lookup_cons]
    cases x == y <;> simp [lookup_map_frz k xs r x]

theorem Rel.freeze {V : View} {ads : List Addr} {s : Shared} {k : Nat} {xs : List PV} (R : C.R σ V ads s) (hk : σ.O[k]? = some (some xs)) (hlent : C.bs.lent.length ≤ k) :
    ∃ V', V.Le V' ∧ C.R (σ.freeze k xs) V' ads s ∧ ∀ v, LocRep V ads (.own k) v → LocRep V' ads (.pv (.list xs)) v := by
  obtain ⟨l, us, m, h1, h2, h3, h4, h5⟩ := R.own k xs hk
  have le := View.le_add (o := lst us m) h4
  have rep : ∀ v, LocRep V ads (.own k) v → LocRep (V.add l (lst us m)) ads (.pv (.list xs)) v := fun v hv => by
    obtain ⟨a, q1, rfl⟩ := hv
    rw [h1] at q1; cases q1
    simp only [LocRep, Rep]
    exact ⟨l, us, m, rfl, View.add_self, Reps.mono le _ h3⟩
  refine ⟨V.add l (lst us m), le, ?_, rep⟩
  have sees : Sees (V.add l (lst us m)) s.heap := fun b o h => by
    rcases View.add_cases h with ⟨rfl, rfl⟩ | ⟨_, h⟩
    · exact h2
    · exact R.sees b o h
  exact {
    same := R.same
    sees := sees
    glob := R.glob.mono le
    keep := R.keep
    vnew := fun b o h => by
      rcases View.add_cases h with ⟨rfl, rfl⟩ | ⟨_, h⟩
      · exact .inr ⟨R.onew k _ hlent h1, h5⟩
      · exact R.vnew b o h
    frame := by
      obtain ⟨m, hN, hx⟩ := R.frame
      refine ⟨m, hN, fun x lc ex => ?_⟩
      show ∃ v, LocRep _ ads lc v ∧ _
      simp only [St.freeze] at ex
      rw [lookup_map_frz] at ex
      cases e : σ.ρ.lookup x with
      | none => rw [e] at ex; cases ex
      | some l₀ =>
        rw [e] at ex
        simp only [Option.map_some, Option.some.injEq] at ex
        obtain ⟨v, q1, q2⟩ := hx x l₀ e
        refine ⟨v, ?_, q2⟩
        subst ex
        cases l₀ with
        | pv p => exact q1.mono le (Pre.refl _)
        | own j =>
          unfold frz
          by_cases q : j = k
          · subst q
            simp only [if_true]
            exact rep v q1
          · simp only [if_neg q]
            exact q1
    Lnew := R.Lnew
    hL := by
      cases e : (V.add l (lst us m)) C.env.locals with
      | none => rfl
      | some o =>
        obtain ⟨m', hN, _⟩ := R.frame
        rcases View.add_cases e with ⟨q, _⟩ | ⟨_, h⟩
        · exact absurd q (ns_ne_list hN h2)
        · rw [R.hL] at h; cases h
    kL := R.kL
    cells := fun hc x c ex => by
      obtain ⟨⟨v, q1⟩, q2, q3⟩ := R.cells hc x c ex
      refine ⟨⟨v, q1⟩, ?_, q3⟩
      cases e : (V.add l (lst us m)) c with
      | none => rfl
      | some o =>
        rcases View.add_cases e with ⟨q, _⟩ | ⟨_, h⟩
        · exact absurd q (cell_ne_list q1 h2)
        · rw [q2] at h; cases h
    olen := by
      show ads.length = (σ.O.set k none).length
      rw [List.length_set]; exact R.olen
    own := fun j zs hj => by
      replace hj : (σ.O.set k none)[j]? = some (some zs) := hj
      by_cases q : j = k
      · subst q
        rw [List.getElem?_set_self (List.getElem?_eq_some_iff.mp hk).1] at hj
        cases hj
      · rw [List.getElem?_set_ne (Ne.symm q)] at hj
        obtain ⟨l', us', m', q1, q2, q3, q4, q5⟩ := R.own j zs hj
        refine ⟨l', us', m', q1, q2, Reps.mono le _ q3, ?_, q5⟩
        cases e : (V.add l (lst us m)) l' with
        | none => rfl
        | some o =>
          rcases View.add_cases e with ⟨q', _⟩ | ⟨_, h⟩
          · subst q'
            exact absurd ((List.getElem?_inj (List.getElem?_eq_some_iff.mp q1).1 R.inj).mp (q1.trans h1.symm)) q
          · rw [q4] at h; cases h
    inj := R.inj
    onew := R.onew
    lentP := R.lentP
    aex := R.aex
    akv := R.akv
    cex := R.cex
    adL := R.adL, adC := R.adC }

theorem e_frz {e : Expr} {Q : Loc → St → Prop} (h : WE C e σ fun r σ₁ => ∃ k xs, r = .own k ∧ σ₁.O[k]? = some (some xs) ∧ C.bs.lent.length ≤ k ∧ Q (.pv (.list xs)) (σ₁.freeze k xs)) : WE C e σ Q := fun A E s V ads Q' rm R g =>
  h A E s V ads Q' rm R fun v s₁ V₁ ads₁ r σ₁ le₁ pr₁ R₁ r₁ h₁ => by
    obtain ⟨k, xs, rfl, hk, hl, q⟩ := h₁
    obtain ⟨V', le, R', rep⟩ := R₁.freeze hk hl
    exact g v s₁ V' ads₁ _ _ (le₁.trans le) pr₁ R' (rep v r₁) q

/-! storing a name -/
theorem Rel.put {V : View} {ads : List Addr} {s : Shared} {x : Str} {l : Loc} {v : Value} {M : Model} {A : Around} {E : Value → Shared → Prop} {Q : Unit → Shared → Prop} (R : C.R σ V ads s) (r : LocRep V ads l v)
    (hk : C.env.scope.kind = .function) (hx : C.env.kindOf x = some .local ∨ (C.bs.cellsOwn = true ∧ C.env.kindOf x = some .cell ∧ (C.env.cells.lookup x).isSome = true)) (hQ : ∀ s', C.R (σ.put x l) V ads s' → Q () s') : wpAny M A (storeName C.env x v) Q E s := by
  obtain ⟨m, hN, hf⟩ := R.frame
  rcases hx with hx | ⟨hc, hx, hl⟩
  · refine wpAny_storeName_local hx hN (fun h' hn hs => hQ _ ?_) (by rw [hk]; rfl)
    have kp : ∀ b o, b ≠ C.env.locals → s.heap.get? b = some o → h'.get? b = some o := fun b o ne e => hs.extBut b o ne e
    exact {
      same := by obtain ⟨h, t, e⟩ := R.same; exact ⟨h', s.toks + 1, by rw [e]⟩
      sees := fun b o e => kp b o (fun q => by rw [q, R.hL] at e; cases e) (R.sees b o e)
      glob := R.glob
      keep := fun b o e => kp b o (fun q => by rw [q, R.kL] at e; cases e) (R.keep b o e)
      vnew := R.vnew
      frame := by
        refine ⟨_, hn, fun y l' e => ?_⟩
        rw [lookup_put] at e
        by_cases q : y = x
        · subst q
          simp only [if_true, Option.some.injEq] at e
          subst e
          exact ⟨v, r, .inl ⟨hx, by simp⟩⟩
        · rw [if_neg q] at e
          obtain ⟨u, h1, h2⟩ := hf y l' e
          exact ⟨u, h1, h2.imp (fun h => ⟨h.1, by simp only [if_neg q]; exact h.2⟩) fun ⟨a, c, b, d⟩ => ⟨a, c, b, isCell_but d kp (cell_ne_ns d hN)⟩⟩
      Lnew := R.Lnew
      hL := R.hL
      kL := R.kL
      cells := fun hc y c e => by
        obtain ⟨⟨u, h1⟩, h2⟩ := R.cells hc y c e
        exact ⟨⟨u, isCell_but h1 kp (cell_ne_ns h1 hN)⟩, h2⟩
      olen := R.olen
      own := fun k xs e => by
        obtain ⟨a, us, n, h1, h2, h3⟩ := R.own k xs e
        exact ⟨a, us, n, h1, kp _ _ (Ne.symm (ns_ne_list hN h2)) h2, h3⟩
      inj := R.inj
      onew := R.onew
      lentP := R.lentP
      aex := fun a ha => by
        by_cases q : a = C.env.locals
        · subst q
          obtain ⟨o, es, ep, ho, _⟩ := hn
          exact ⟨o, ho⟩
        · exact (R.aex a ha).imp fun o h => kp _ _ q h
      akv := R.akv
      cex := fun y c e => by
        by_cases q : c = C.env.locals
        · subst q
          obtain ⟨o, es, ep, ho, _⟩ := hn
          exact ⟨o, ho⟩
        · exact (R.cex y c e).imp fun o h => kp _ _ q h
      adL := R.adL, adC := R.adC }
  · obtain ⟨c, hl⟩ := Option.isSome_iff_exists.mp hl
    obtain ⟨⟨u, hcell⟩, h4, h5, h6⟩ := R.cells hc x c hl
    refine wpAny_storeName_cell hk hx hl hcell fun h' hn hs => hQ _ ?_
    have kp : ∀ b o, b ≠ c → s.heap.get? b = some o → h'.get? b = some o := fun b o ne e => hs.extBut b o ne e
    exact {
      same := by obtain ⟨h, t, e⟩ := R.same; exact ⟨h', s.toks, by rw [e]⟩
      sees := fun b o e => kp b o (fun q => by rw [q, h4] at e; cases e) (R.sees b o e)
      glob := R.glob
      keep := fun b o e => kp b o (fun q => by rw [q, h5] at e; cases e) (R.keep b o e)
      vnew := R.vnew
      frame := by
        refine ⟨m, ns_but hN kp (Ne.symm (cell_ne_ns hcell hN)), fun y l' e => ?_⟩
        rw [lookup_put] at e
        by_cases q : y = x
        · subst q
          simp only [if_true, Option.some.injEq] at e
          subst e
          exact ⟨v, r, .inr ⟨.inl hx, c, hl, hn⟩⟩
        · rw [if_neg q] at e
          obtain ⟨u, h1, h2⟩ := hf y l' e
          refine ⟨u, h1, h2.imp id fun ⟨a, c', b, d⟩ => ⟨a, c', b, isCell_but d kp fun q' => q ?_⟩⟩
          subst q'
          exact h6 y b
      Lnew := R.Lnew
      hL := R.hL
      kL := R.kL
      cells := fun hc y c' e => by
        obtain ⟨⟨u, h1⟩, h2⟩ := R.cells hc y c' e
        by_cases q : c' = c
        · exact ⟨⟨_, q ▸ hn⟩, h2⟩
        · exact ⟨⟨u, isCell_but h1 kp q⟩, h2⟩
      olen := R.olen
      own := fun k xs e => by
        obtain ⟨a, us, n, h1, h2, h3⟩ := R.own k xs e
        exact ⟨a, us, n, h1, kp _ _ (Ne.symm (cell_ne_list hcell h2)) h2, h3⟩
      inj := R.inj
      onew := R.onew
      lentP := R.lentP
      aex := fun a ha => by
        by_cases q : a = c
        · subst q
          obtain ⟨o, ho, _⟩ := hn
          exact ⟨o, ho⟩
        · exact (R.aex a ha).imp fun o h => kp _ _ q h
      akv := R.akv
      cex := fun y c' e => by
        by_cases q : c' = c
        · subst q
          obtain ⟨o, ho, _⟩ := hn
          exact ⟨o, ho⟩
        · exact (R.cex y c' e).imp fun o h => kp _ _ q h
      adL := R.adL, adC := R.adC }

/-! statements -/
theorem b_nil {Q : RF → St → Prop} (q : Q .next σ) : WB C [] σ Q := fun A E s V ads Q' rm R g => wpAny_execs_nil (g.at R (a := RF.next) rfl q)
theorem b_cons {st : Stmt} {rest : List Stmt} {Q : RF → St → Prop} (h : WS C st σ fun f σ₁ => match f with | .next => WB C rest σ₁ Q | f => Q f σ₁) : WB C (st :: rest) σ Q := fun A E s V ads Q' rm R g =>
  wpAny_execs_cons (h A E s V ads _ rm R fun f s₁ V₁ ads₁ r σ₁ le₁ pr₁ R₁ r₁ h₁ => by
    cases r with
    | next => cases r₁; exact h₁ A E s₁ V₁ ads₁ Q' rm R₁ (g.later le₁ pr₁)
    | brk => cases r₁; exact g _ s₁ V₁ ads₁ RF.brk σ₁ le₁ pr₁ R₁ rfl h₁
    | cont => cases r₁; exact g _ s₁ V₁ ads₁ RF.cont σ₁ le₁ pr₁ R₁ rfl h₁
    | ret l =>
      obtain ⟨v, rfl, hr⟩ := r₁
      exact g _ s₁ V₁ ads₁ (RF.ret l) σ₁ le₁ pr₁ R₁ ⟨v, rfl, hr⟩ h₁)
/-- a statement that goes on to the next -/
theorem b_next {st : Stmt} {rest : List Stmt} {Q : RF → St → Prop} (h : WS C st σ fun f σ₁ => f = .next ∧ WB C rest σ₁ Q) : WB C (st :: rest) σ Q :=
  b_cons (W.mono h fun f σ₁ ⟨e, h⟩ => by subst e; exact h)
theorem s_return {e : Expr} {pos : Pos} {Q : RF → St → Prop} (h : WE C e σ fun r σ₁ => Q (.ret r) σ₁) : WS C (.Return (some e) pos) σ Q := fun A E s V ads Q' rm R g =>
  wpAny_Return_some (h A E s V ads _ rm R fun v s₁ V₁ ads₁ r σ₁ le₁ pr₁ R₁ r₁ h₁ => g _ s₁ V₁ ads₁ (RF.ret r) σ₁ le₁ pr₁ R₁ ⟨v, rfl, r₁⟩ h₁)
theorem s_pass {pos : Pos} {Q : RF → St → Prop} (q : Q .next σ) : WS C (.Pass pos) σ Q := fun A E s V ads Q' rm R g => wpAny_Pass (g.at R (a := RF.next) rfl q)
theorem s_continue {pos : Pos} {Q : RF → St → Prop} (q : Q .cont σ) : WS C (.Continue pos) σ Q := fun A E s V ads Q' rm R g => wpAny_Continue (g.at R (a := RF.cont) rfl q)
theorem s_if {test : Expr} {body orelse : List Stmt} {pos : Pos} {Q : RF → St → Prop} (h : WT C test σ fun b σ₁ => if b then WB C body σ₁ Q else WB C orelse σ₁ Q) : WS C (.If test body orelse pos) σ Q := fun A E s V ads Q' rm R g =>
  wpAny_If (h A E s V ads _ rm R fun b s₁ V₁ ads₁ t σ₁ le₁ pr₁ R₁ r₁ h₁ => by
    subst r₁
    cases b
    · simp only [Bool.false_eq_true, if_false] at h₁ ⊢
      exact h₁ A E s₁ V₁ ads₁ Q' rm R₁ (g.later le₁ pr₁)
    · simp only [if_true] at h₁ ⊢
      exact h₁ A E s₁ V₁ ads₁ Q' rm R₁ (g.later le₁ pr₁))

/-- a name that may be stored -/
def Storable (C : Cx) (x : Str) : Prop := C.env.scope.kind = .function ∧ (C.env.kindOf x = some .local ∨ (C.bs.cellsOwn = true ∧ C.env.kindOf x = some .cell ∧ (C.env.cells.lookup x).isSome = true))

theorem s_assign {x : Str} {p' pos : Pos} {value : Expr} {Q : RF → St → Prop} (hx : Storable C x) (h : WE C value σ fun r σ₁ => Q .next (σ₁.put x r))
    (hs : swapsWith value (some (.Name x p')) pos.line C.env = pure false := by with_unfolding_all rfl) : WS C (.Assign [.Name x p'] value pos) σ Q := fun A E s V ads Q' rm R g =>
  wpAny_Assign_Name (h A E s V ads _ rm R fun v s₁ V₁ ads₁ r σ₁ le₁ pr₁ R₁ r₁ h₁ =>
    R₁.put r₁ hx.1 hx.2 fun s₂ R₂ => g _ s₂ V₁ ads₁ RF.next _ le₁ pr₁ R₂ rfl h₁) hs
theorem s_aug {x : Str} {p' pos : Pos} {op : Operator} {value : Expr} {l : Loc} {Q : RF → St → Prop} (hx : Storable C x) (hl : σ.ρ.lookup x = some l)
    (h : WE C value σ fun r σ₁ => W2 C LocRep (inplaceOp op) l r σ₁ fun r' σ₂ => Q .next (σ₂.put x r')) (hc : (x == ("__classdict__" : Str)) = false := by with_unfolding_all rfl) : WS C (.AugAssign (.Name x p') op value pos) σ Q := fun A E s V ads Q' rm R g => by
  obtain ⟨m, hN, hf⟩ := R.frame
  obtain ⟨v, q1, q2⟩ := hf x l hl
  exact wpAny_AugAssign_Name (loadName_At hx.1 hN q2 hc (h A E s V ads _ rm R fun v' s₁ V₁ ads₁ r σ₁ le₁ pr₁ R₁ r₁ h₁ =>
    h₁ A E s₁ V₁ ads₁ _ v v' rm R₁ (q1.mono le₁ pr₁) r₁ fun v'' s₂ V₂ ads₂ r' σ₂ le₂ pr₂ R₂ r₂ h₂ =>
      R₂.put r₂ hx.1 hx.2 fun s₃ R₃ => g _ s₃ V₂ ads₂ RF.next _ (le₁.trans le₂) (pr₁.trans pr₂) R₃ rfl h₂))
theorem s_expr {e : Expr} {pos : Pos} {Q : RF → St → Prop} (h : WE C e σ fun r σ₁ => r = .pv .none ∧ Q .next σ₁) (hi : interactive C.env = false := by with_unfolding_all rfl) (hs : swapsWith e none pos.line C.env = pure false := by with_unfolding_all rfl) : WS C (.Expr e pos) σ Q := fun A E s V ads Q' rm R g =>
  wpAny_Expr (h A E s V ads _ rm R fun v s₁ V₁ ads₁ r σ₁ le₁ pr₁ R₁ r₁ h₁ => by
    obtain ⟨rfl, q⟩ := h₁
    simp only [LocRep, Rep] at r₁
    subst r₁
    exact g _ s₁ V₁ ads₁ RF.next σ₁ le₁ pr₁ R₁ rfl q) hi hs
end

end CR
namespace CR
open PySem PySem.W PyProof.Rows

/-! calls of the text's defs -/
inductive Res where
  | val (p : PV)
  | fresh (xs : List PV)

def Lents (V : View) (h : Heap) (lx : List (List PV)) (lads : List Addr) : Prop :=
  lx.length = lads.length ∧ ∀ (k : Nat) xs, lx[k]? = some xs → ∃ l vs n, lads[k]? = some l ∧ h.get? l = some (lst vs n) ∧ Reps V xs vs.toList ∧ V l = none

def ResRep (s : Shared) (V' : View) (h' : Heap) : Res → Value → Prop
  | .val p, v => Rep V' p v
  | .fresh xs, v => ∃ l vs n, v = .ref l ∧ h'.get? l = some (lst vs n) ∧ Reps V' xs vs.toList ∧ V' l = none ∧ s.heap.objs.size ≤ l

def Back (s : Shared) (V : View) (lads : List Addr) (Q : Res → List (List PV) → Prop) (Q' : Value → Shared → Prop) : Prop :=
  ∀ v s' V' outs r, (∃ h t, s' = { s with heap := h, toks := t }) → V.Le V' → Sees V' s'.heap → (∀ b o, V' b = some o → (∃ o', V b = some o') ∨ s.heap.objs.size ≤ b) →
    (∀ b o, b ∉ lads → s.heap.get? b = some o → s'.heap.get? b = some o) → Lents V' s'.heap outs lads → ResRep s V' s'.heap r v → Q r outs → Q' v s'

def FCall (prog : Program) (w : World) (K : Frag) (d : Nat) (a : Addr) (lx : List (List PV)) (ps : List PV) (Q : Res → List (List PV) → Prop) : Prop :=
  ∀ (A : Around) (E : Value → Shared → Prop) (s : Shared) (V : View) (lads : List Addr) (vs : List Value) (Q' : Value → Shared → Prop), Room A d → Gl K V → Sees V s.heap → Lents V s.heap lx lads → lads.Nodup → Reps V ps vs → Back s V lads Q Q' →
    wpAny (model prog w) A (call (.ref a) (lads.map Value.ref ++ vs)) Q' E s

def FCallF (fr : Around → Prop) (prog : Program) (w : World) (K : Frag) (d : Nat) (a : Addr) (lx : List (List PV)) (ps : List PV) (Q : Res → List (List PV) → Prop) : Prop :=
  ∀ (A : Around) (E : Value → Shared → Prop) (s : Shared) (V : View) (lads : List Addr) (vs : List Value) (Q' : Value → Shared → Prop), fr A → Room A d → Gl K V → Sees V s.heap → Lents V s.heap lx lads → lads.Nodup → Reps V ps vs → Back s V lads Q Q' →
    wpAny (model prog w) A (call (.ref a) (lads.map Value.ref ++ vs)) Q' E s
theorem FCallF.plain {prog : Program} {w : World} {K : Frag} {d : Nat} {a : Addr} {lx : List (List PV)} {ps : List PV} {Q : Res → List (List PV) → Prop} (h : FCallF (fun _ => True) prog w K d a lx ps Q) : FCall prog w K d a lx ps Q :=
  fun A E s V lads vs Q' => h A E s V lads vs Q' trivial

theorem Room.less {A : Around} {d d' : Nat} (r : Room A d) (h : d' ≤ d) : Room A d' := ⟨r.handled, by have := r.depth; lia, by have := r.units; lia⟩
theorem FCall.more {prog : Program} {w : World} {K : Frag} {d d' : Nat} {a : Addr} {lx : List (List PV)} {ps : List PV} {Q : Res → List (List PV) → Prop} (h : FCall prog w K d a lx ps Q) (hd : d ≤ d') : FCall prog w K d' a lx ps Q :=
  fun A E s V lads vs Q' rm => h A E s V lads vs Q' (rm.less hd)
theorem FCall.mono {prog : Program} {w : World} {K : Frag} {d : Nat} {a : Addr} {lx : List (List PV)} {ps : List PV} {Q Q₂ : Res → List (List PV) → Prop} (h : FCall prog w K d a lx ps Q) (hq : ∀ r o, Q r o → Q₂ r o) : FCall prog w K d a lx ps Q₂ :=
  fun A E s V lads vs Q' rm g se l nd r b => h A E s V lads vs Q' rm g se l nd r fun v s' V' outs r h1 h2 h3 h4 h5 h6 h7 h8 => b v s' V' outs r h1 h2 h3 h4 h5 h6 h7 (hq r outs h8)

section
variable {C : Cx} {σ : St}

theorem Rel.kill {V : View} {ads : List Addr} {s s' : Shared} {k : Nat} {l : Addr} {xs : List PV} (R : C.R σ V ads s) (hk : σ.O[k]? = some (some xs)) (hl : ads[k]? = some l)
    (e : ∃ h t, s' = { s with heap := h, toks := t }) (kp : ∀ b o, b ≠ l → s.heap.get? b = some o → s'.heap.get? b = some o) {o' : Obj} (hg : s'.heap.get? l = some o') : C.R (σ.setO k none) V ads s' := by
  obtain ⟨l', us, m, h1, h2, h3, h4, h5⟩ := R.own k xs hk
  rw [hl] at h1; cases h1
  exact {
    same := by
      obtain ⟨h, t, rfl⟩ := e
      obtain ⟨h', t', e'⟩ := R.same
      exact ⟨h, t, by rw [e']⟩
    sees := fun b o hb => kp b o (fun q => by rw [q, h4] at hb; cases hb) (R.sees b o hb)
    glob := R.glob
    keep := fun b o hb => kp b o (fun q => by rw [q, h5] at hb; cases hb) (R.keep b o hb)
    vnew := R.vnew
    frame := by
      obtain ⟨m, hN, hx⟩ := R.frame
      refine ⟨m, ns_but hN kp (ns_ne_list hN h2), fun x lc ex => ?_⟩
      obtain ⟨v, q1, q2⟩ := hx x lc ex
      exact ⟨v, q1, q2.imp id fun ⟨a, c, b, d⟩ => ⟨a, c, b, isCell_but d kp (cell_ne_list d h2)⟩⟩
    Lnew := R.Lnew
    hL := R.hL
    kL := R.kL
    cells := fun hc x c ex => by
      obtain ⟨⟨v, q1⟩, q2⟩ := R.cells hc x c ex
      exact ⟨⟨v, isCell_but q1 kp (cell_ne_list q1 h2)⟩, q2⟩
    olen := by rw [List.length_set]; exact R.olen
    own := fun j zs hj => by
      by_cases q : j = k
      · subst q
        rw [List.getElem?_set_self (List.getElem?_eq_some_iff.mp hk).1] at hj
        cases hj
      · rw [List.getElem?_set_ne (Ne.symm q)] at hj
        obtain ⟨l', us', m', q1, q2, q3, q4, q5⟩ := R.own j zs hj
        refine ⟨l', us', m', q1, kp _ _ (fun e => ?_) q2, q3, q4, q5⟩
        subst e
        exact q ((List.getElem?_inj (List.getElem?_eq_some_iff.mp q1).1 R.inj).mp (q1.trans hl.symm))
    inj := R.inj
    onew := R.onew
    lentP := R.lentP
    aex := fun a ha => by
      by_cases q : a = l
      · exact ⟨_, q ▸ hg⟩
      · obtain ⟨o, ho⟩ := R.aex a ha
        exact ⟨o, kp _ _ q ho⟩
    akv := R.akv
    cex := fun x c e => by
      by_cases q : c = l
      · exact ⟨_, q ▸ hg⟩
      · exact (R.cex x c e).imp fun o h => kp _ _ q h
    adL := R.adL
    adC := R.adC }

theorem Rel.revive {V : View} {ads : List Addr} {s : Shared} {k : Nat} {l : Addr} {ys : List PV} {vs : Array Value} {n : Nat} (R : C.R (σ.setO k none) V ads s) (hl : ads[k]? = some l) (hg : s.heap.get? l = some (lst vs n))
    (rs : Reps V ys vs.toList) (hV : V l = none) (hkv : C.bs.kv l = none) : C.R (σ.setO k (some ys)) V ads s := {
  R with
  olen := by have := R.olen; simp only [List.length_set] at this ⊢; exact this
  own := fun j zs hj => by
    by_cases q : j = k
    · subst q
      have hlt : j < σ.O.length := by
        have := (List.getElem?_eq_some_iff.mp hj).1
        rwa [List.length_set] at this
      rw [List.getElem?_set_self hlt] at hj
      cases hj
      exact ⟨l, vs, n, hl, hg, rs, hV, hkv⟩
    · rw [List.getElem?_set_ne (Ne.symm q)] at hj
      exact R.own j zs (by rw [List.getElem?_set_ne (Ne.symm q)]; exact hj) }

def WCall (C : Cx) (f : Value) (rs : List Loc) (σ : St) (Q : Loc → St → Prop) : Prop := WA C LocRep (fun vs => call f vs) rs σ Q

/-- a callee's answer, to the caller -/
def Lift (σ : St) (Q : Loc → St → Prop) : Res → Prop
  | .val p => Q (.pv p) σ
  | .fresh xs => New σ xs Q

theorem lift_goes {V V' : View} {ads : List Addr} {s s' : Shared} {Q : Loc → St → Prop} {Q' : Value → Shared → Prop} {r : Res} {v : Value} (R : C.R σ V' ads s') (le : V.Le V') (g : Goes C LocRep Q V ads Q') (s₀ : Shared)
    (hr : ResRep s₀ V' s'.heap r v) (hb : C.bs.s₀.heap.objs.size ≤ s₀.heap.objs.size) (hf : ∀ a, s₀.heap.objs.size ≤ a → C.bs.kv a = none ∧ a ≠ C.env.locals ∧ (∀ x, C.env.cells.lookup x ≠ some a) ∧ a ∉ ads) (q : Lift σ Q r) : Q' v s' := by
  cases r with
  | val p => exact g v s' V' ads (.pv p) σ le (Pre.refl _) R hr q
  | fresh xs =>
    obtain ⟨l, vs, n, rfl, hg, rs, hV, hl⟩ := hr
    obtain ⟨f1, f2, f3, f4⟩ := hf l hl
    rcases q with q | q
    · have le2 := View.le_add (o := lst vs n) hV
      refine g _ s' _ ads (.pv (.list xs)) σ (le.trans le2) (Pre.refl _) (R.grow le2 (fun b o h => ?_) fun b o h => ?_) ?_ q
      · rcases View.add_cases h with ⟨rfl, rfl⟩ | ⟨_, h⟩
        · exact hg
        · exact R.sees b o h
      · rcases View.add_cases h with ⟨rfl, rfl⟩ | ⟨_, h⟩
        · exact .inr ⟨Nat.le_trans hb hl, f1, f2, f3, f4⟩
        · exact .inl ⟨o, h⟩
      · simp only [LocRep, Rep]
        exact ⟨l, vs, n, rfl, View.add_self, Reps.mono le2 _ rs⟩
    · refine g _ s' V' (ads ++ [l]) (.own σ.O.length) _ le ⟨[l], rfl⟩ ?_ ⟨l, ?_, rfl⟩ q
      · exact {
          same := R.same
          sees := R.sees
          glob := R.glob
          keep := R.keep
          vnew := R.vnew
          frame := by
            obtain ⟨m, hN, hx⟩ := R.frame
            refine ⟨m, hN, fun x l e => ?_⟩
            obtain ⟨v, h1, h2⟩ := hx x l e
            exact ⟨v, h1.mono (View.Le.refl _) ⟨_, rfl⟩, h2⟩
          Lnew := R.Lnew
          hL := R.hL
          kL := R.kL
          cells := R.cells
          olen := by rw [List.length_append, List.length_append, R.olen]; rfl
          own := fun j ys h => by
            by_cases hj : j < σ.O.length
            · rw [List.getElem?_append_left hj] at h
              obtain ⟨l', us, m, h1, h2, h3, h4, h5⟩ := R.own j ys h
              exact ⟨l', us, m, by rw [List.getElem?_append_left (by rw [R.olen]; exact hj)]; exact h1, h2, h3, h4, h5⟩
            · have hj' := (List.getElem?_eq_some_iff.mp h).1
              rw [List.length_append] at hj'
              have hj2 : j = σ.O.length := by simp only [List.length_cons, List.length_nil] at hj'; lia
              subst hj2
              rw [List.getElem?_append_right (Nat.le_refl _), Nat.sub_self] at h
              simp only [List.getElem?_cons_zero, Option.some.injEq] at h
              subst h
              refine ⟨l, vs, n, ?_, hg, rs, hV, f1⟩
              rw [List.getElem?_append_right (by rw [R.olen]; exact Nat.le_refl _), R.olen, Nat.sub_self]; rfl
          inj := List.nodup_append.mpr ⟨R.inj, by simp, fun x hx y hy => by
            rw [List.mem_singleton] at hy
            subst hy
            exact fun e => f4 (e ▸ hx)⟩
          onew := fun j l' hl' h => by
            by_cases hj : j < ads.length
            · rw [List.getElem?_append_left hj] at h
              exact R.onew j l' hl' h
            · rw [List.getElem?_append_right (Nat.not_lt.mp hj)] at h
              have : l' = l := by
                have := List.mem_of_getElem? h
                simpa using this
              subst this
              exact Nat.le_trans hb hl
          lentP := R.lentP.trans ⟨[l], rfl⟩
          aex := fun a ha => by
            rcases List.mem_append.mp ha with h | h
            · exact R.aex a h
            · rw [List.mem_singleton] at h; subst h; exact ⟨_, hg⟩
          akv := fun a ha => by
            rcases List.mem_append.mp ha with h | h
            · exact R.akv a h
            · rw [List.mem_singleton] at h; subst h; exact f1
          cex := R.cex
          adL := fun h => by
            rcases List.mem_append.mp h with h | h
            · exact R.adL h
            · rw [List.mem_singleton] at h; exact f2 h.symm
          adC := fun x c e h => by
            rcases List.mem_append.mp h with h | h
            · exact R.adC x c e h
            · rw [List.mem_singleton] at h; exact f3 x (h ▸ e) }
      · rw [← R.olen, List.getElem?_append_right (Nat.le_refl _), Nat.sub_self]; rfl

theorem locs_pv {V : View} {ads : List Addr} : ∀ (xs : List PV) (vs : List Value), Locs V ads (xs.map Loc.pv) vs → Reps V xs vs
  | [], vs, h => by rw [show vs = [] from h]; exact .nil
  | x :: xs, vs, h => by
    obtain ⟨v, vs', rfl, hv, hs⟩ := h
    exact .cons hv (locs_pv xs vs' hs)

theorem call_f {a : Addr} {d : Nat} {ps : List PV} {rs : List Loc} {Q₀ : Res → List (List PV) → Prop} {Q : Loc → St → Prop} (hrs : rs = ps.map Loc.pv) (hF : FCall C.prog C.w C.K d a [] ps Q₀) (hd : d ≤ C.d) (hq : ∀ r, Q₀ r [] → Lift σ Q r) :
    WCall C (.ref a) rs σ Q := fun A E s V ads Q' vs rm R r g => by
  subst hrs
  have hr := locs_pv ps vs r
  refine hF A E s V [] vs Q' (rm.less hd) R.glob R.sees ⟨rfl, fun k xs e => by simp at e⟩ .nil hr fun v s' V' outs r e le se hn kp lo rr q => ?_
  have ho : outs = [] := by
    have := lo.1
    simpa using this
  subst ho
  have kp' : ∀ b o, s.heap.get? b = some o → s'.heap.get? b = some o := fun b o h => kp b o (by simp) h
  have R' := (R.keeps e kp').grow le se fun b o h => (hn b o h).imp id fun hb => by
    exact ⟨Nat.le_trans (Nat.le_of_lt R.size) hb, (fresh_none R hb).2⟩
  exact lift_goes (s := s) R' le g s rr (Nat.le_of_lt R.size) (fun a ha => (fresh_none R ha).2) (hq r q)

theorem call_lent {a : Addr} {d k : Nat} {xs : List PV} {ps : List PV} {rs : List Loc} {Q₀ : Res → List (List PV) → Prop} {Q : Loc → St → Prop} (hrs : rs = .own k :: ps.map Loc.pv) (hk : σ.O[k]? = some (some xs)) (hF : FCall C.prog C.w C.K d a [xs] ps Q₀) (hd : d ≤ C.d)
    (hq : ∀ r ys, Q₀ r [ys] → Lift (σ.setO k (some ys)) Q r) : WCall C (.ref a) rs σ Q := fun A E s V ads Q' vs rm R r g => by
  subst hrs
  obtain ⟨v, vs', rfl, hv, hs⟩ := r
  have hr := locs_pv ps vs' hs
  obtain ⟨l, us, n, h1, h2, h3, h4, h5⟩ := R.own k xs hk
  obtain ⟨l', q1, rfl⟩ := hv
  rw [h1] at q1; cases q1
  refine hF A E s V [l] vs' Q' (rm.less hd) R.glob R.sees ⟨rfl, fun j zs e => ?_⟩ (by simp) hr fun v s' V' outs r e le se hn kp lo rr q => ?_
  · cases j with
    | zero => simp only [List.getElem?_cons_zero, Option.some.injEq] at e; subst e; exact ⟨l, us, n, by simp, h2, h3, h4⟩
    | succ j => simp at e
  obtain ⟨hlen, lo⟩ := lo
  match outs, hlen, q, lo with
  | [ys], _, q, lo =>
    obtain ⟨l'', us', n', t1, t2, t3, t4⟩ := lo 0 ys (by simp)
    simp only [List.getElem?_cons_zero, Option.some.injEq] at t1
    subst t1
    have kp' : ∀ b o, b ≠ l → s.heap.get? b = some o → s'.heap.get? b = some o := fun b o ne h => kp b o (by simpa using ne) h
    have R₁ := (R.kill hk h1 e kp' t2).grow le se fun b o h => (hn b o h).imp id fun hb => by
      exact ⟨Nat.le_trans (Nat.le_of_lt R.size) hb, (fresh_none R hb).2⟩
    have R₂ := R₁.revive h1 t2 t3 t4 h5
    exact lift_goes (s := s) R₂ le g s rr (Nat.le_of_lt R.size) (fun a ha => (fresh_none R ha).2) (hq r ys q)

/-! a call's form -/
def CallK (C : Cx) (f : Loc) (args : List Expr) (pos : Pos) (σ : St) (Q : Loc → St → Prop) : Prop :=
  (∃ a, f = .pv (.ref a) ∧ keepIn C.K (.ref a) = true ∧ WL C args pos σ fun rs σ₂ => WCall C (.ref a) rs σ₂ Q) ∨
  (∃ id, f = .pv (.bi id) ∧ WL C args pos σ fun rs σ₂ => WCall C (.builtin id) rs σ₂ Q) ∨
  (∃ T, f = .pv (.ty T) ∧ WL C args pos σ fun rs σ₂ => WCall C (.type T) rs σ₂ Q)

theorem e_call {x : Str} {p pos : Pos} {e : Expr} {args : List Expr} {Q : Loc → St → Prop} (h : WE C (.Name x p) σ fun f σ₁ => CallK C f (e :: args) pos σ₁ Q)
    (he : starEach (e :: args) C.env = (false, eval e C.env) :: starEach args C.env := by with_unfolding_all rfl) (hplain : (backTo pos (starEach args C.env)).any (·.1) = false := by with_unfolding_all rfl) : WE C (.Call (.Name x p) (e :: args) [] pos) σ Q := fun A E s V ads Q' rm R g => by
  refine Call_Name rfl (h A E s V ads _ rm R fun v s₁ V₁ ads₁ f σ₁ le₁ pr₁ R₁ r₁ h₁ => ?_)
  have hpl : (backTo pos (starEach (e :: args) C.env)).any (·.1) = false := by
    rw [he]
    show (false || (backTo pos (starEach args C.env)).any (·.1)) = false
    rw [hplain]; rfl
  rcases h₁ with ⟨a, rfl, hk, h₁⟩ | ⟨id, rfl, h₁⟩ | ⟨T, rfl, h₁⟩
  · simp only [LocRep, Rep] at r₁
    subst r₁
    refine callWith_K (K := C.K) (h₀ := s₁.heap) (first := []) R₁.glh.K hk (h₁ A E s₁ V₁ ads₁ _ rm R₁ fun vs s₂ V₂ ads₂ rs σ₂ le₂ pr₂ R₂ r₂ h₂ => ⟨R₂.glh.K, ?_⟩) he hplain
    rw [List.nil_append]
    exact h₂ A E s₂ V₂ ads₂ Q' vs rm R₂ r₂ (g.later (le₁.trans le₂) (pr₁.trans pr₂))
  · simp only [LocRep, Rep] at r₁
    subst r₁
    have h₁' := fun Q'' => h₁ A E s₁ V₁ ads₁ Q'' rm R₁
    rw [he] at h₁' hpl ⊢
    refine Calls.callWith_builtin hpl (Calls.evalArgs_plain (h₁' _ fun vs s₂ V₂ ads₂ rs σ₂ le₂ pr₂ R₂ r₂ h₂ => ?_))
    exact h₂ A E s₂ V₂ ads₂ Q' vs rm R₂ r₂ (g.later (le₁.trans le₂) (pr₁.trans pr₂))
  · simp only [LocRep, Rep] at r₁
    subst r₁
    have h₁' := fun Q'' => h₁ A E s₁ V₁ ads₁ Q'' rm R₁
    rw [he] at h₁' hpl ⊢
    refine PyProof.Rows.callWith_type hpl (Calls.evalArgs_plain (h₁' _ fun vs s₂ V₂ ads₂ rs σ₂ le₂ pr₂ R₂ r₂ h₂ => ?_))
    exact h₂ A E s₂ V₂ ads₂ Q' vs rm R₂ r₂ (g.later (le₁.trans le₂) (pr₁.trans pr₂))

/-! built-in functions -/
theorem f_len {r : Loc} {xs : List PV} {Q : Loc → St → Prop} (hl : Lis σ r xs) (hz : xs.length ≤ 1000000) (q : Q (.pv (.int xs.length)) σ) : WCall C (.builtin "len") [r] σ Q := fun A E s V ads Q' vs rm R r₁ g => by
  obtain ⟨v, vs', rfl, hv, rfl⟩ := r₁
  obtain ⟨l, us, n, rfl, hg, rs⟩ := lis_at R hv hl
  have hlen := rs.length
  simp only [Array.length_toList] at hlen
  refine len_list ⟨_, hg, rfl, n, rfl⟩ (by lia) (g.at (a := .pv (.int xs.length)) (R.tok _) ?_ q)
  simp only [LocRep, Rep]
  exact ⟨s.toks + 1, by rw [hlen]⟩
theorem f_min {a b : Int} {Q : Loc → St → Prop} (q : Q (.pv (.int (if b < a then b else a))) σ) : WCall C (.builtin "min") [.pv (.int a), .pv (.int b)] σ Q := fun A E s V ads Q' vs rm R r₁ g => by
  obtain ⟨v, vs', rfl, hv, v', vs'', rfl, hv', rfl⟩ := r₁
  simp only [LocRep, Rep] at hv hv'
  obtain ⟨t, rfl⟩ := hv
  obtain ⟨u, rfl⟩ := hv'
  refine min_two_ints rm.handled fun h' tk k => g.at (a := .pv (.int (if b < a then b else a))) (R.keeps ⟨h', tk, rfl⟩ k) ?_ q
  simp only [LocRep, Rep]
  by_cases c : b < a
  · exact ⟨u, by rw [if_pos c, if_pos c]⟩
  · exact ⟨t, by rw [if_neg c, if_neg c]⟩
theorem f_abs {a : Int} {Q : Loc → St → Prop} (q : Q (.pv (.int (if a < 0 then -a else a))) σ) : WCall C (.builtin "abs") [.pv (.int a)] σ Q := fun A E s V ads Q' vs rm R r₁ g => by
  obtain ⟨v, vs', rfl, hv, rfl⟩ := r₁
  simp only [LocRep, Rep] at hv
  obtain ⟨t, rfl⟩ := hv
  refine call_abs_int fun u tk => g.at (a := .pv (.int (if a < 0 then -a else a))) (R.tok tk) ?_ q
  simp only [LocRep, Rep]
  exact ⟨u, rfl⟩
theorem f_int {a : Int} {Q : Loc → St → Prop} (q : Q (.pv (.int a)) σ) : WCall C (.type "int") [.pv (.int a)] σ Q := fun A E s V ads Q' vs rm R r₁ g => by
  obtain ⟨v, vs', rfl, hv, rfl⟩ := r₁
  simp only [LocRep, Rep] at hv
  obtain ⟨t, rfl⟩ := hv
  refine call_int_int (g.at (a := .pv (.int a)) R ?_ q)
  simp only [LocRep, Rep]
  exact ⟨t, rfl⟩

theorem nums_reps {V : View} : ∀ (ns : List Int) (vs : List Value), Reps V (ns.map PV.int) vs → ∃ xs : List (Int × Tok), vs = xs.map (fun p => Value.int p.1 p.2) ∧ xs.map (·.1) = ns
  | [], vs, h => ⟨[], by rw [h.nil_inv]; rfl, rfl⟩
  | n :: ns, vs, h => by
    obtain ⟨v, vs', rfl, hv, hs⟩ := Reps.cons_inv (by simpa using h)
    simp only [Rep] at hv
    obtain ⟨t, rfl⟩ := hv
    obtain ⟨xs, e1, e2⟩ := nums_reps ns vs' hs
    exact ⟨(n, t) :: xs, by rw [e1]; rfl, by rw [← e2]; rfl⟩

theorem f_sum {r : Loc} {ns : List Int} {Q : Loc → St → Prop} (hl : Lis σ r (ns.map PV.int)) (hfit : ∀ j, j < ns.length → InLong (ns.getD j 0) ∧ InLong ((ns.take (j + 1)).sum)) (q : Q (.pv (.int ns.sum)) σ) : WCall C (.builtin "sum") [r] σ Q := fun A E s V ads Q' vs rm R r₁ g => by
  obtain ⟨v, vs', rfl, hv, rfl⟩ := r₁
  obtain ⟨l, us, n, rfl, hg, rs⟩ := lis_at R hv hl
  obtain ⟨xs, e1, e2⟩ := nums_reps ns _ rs
  have hus : us = intItems xs.toArray := by
    apply Array.toList_inj.mp
    rw [e1]; simp [intItems]
  subst hus
  refine sum_intList rm.handled ⟨_, hg, rfl, n, rfl⟩ (fun j hj => ?_) fun h' tk t' k => g.at (a := .pv (.int ns.sum)) (R.keeps ⟨h', tk, rfl⟩ k) ?_ q
  · rw [numAt_eq, preSum_eq]
    have := hfit j (by rw [← e2]; simpa using hj)
    simpa [e2] using this
  · simp only [LocRep, Rep]
    refine ⟨t', ?_⟩
    rw [preSum_eq, List.take_of_length_le (by simp)]
    simp [e2]
end

end CR
namespace CR
open PySem PySem.W PyProof.Rows

section
variable {C : Cx} {σ : St}

theorem own_at {V : View} {ads : List Addr} {s : Shared} {k : Nat} {v : Value} {xs : List PV} (R : C.R σ V ads s) (hr : LocRep V ads (.own k) v) (h : σ.O[k]? = some (some xs)) :
    ∃ l vs n, v = .ref l ∧ ads[k]? = some l ∧ s.heap.get? l = some (lst vs n) ∧ Reps V xs vs.toList := by
  obtain ⟨l, vs, n, h1, h2, h3, _⟩ := R.own k xs h
  obtain ⟨a, h4, e⟩ := hr
  rw [h1] at h4; cases h4
  exact ⟨l, vs, n, e, h1, h2, h3⟩

theorem upd_keeps {s : Shared} (l : Addr) (f : Obj → Obj) : ∀ b o, b ≠ l → s.heap.get? b = some o → (s.heap.update l f).get? b = some o := fun b o ne e => by
  rw [Heap.get?_update_other _ _ (Ne.symm ne)]; exact e

/-! methods -/
abbrev fewArgs (C : Cx) (es : List Expr) (pos : Pos) : Prop := ((backTo pos (starEach es C.env)).all (fun x => !x.1) && (backToKw pos (keywordEach [] C.env)).all (fun x => x.1.isSome) && decide (es.length + ([] : List Keyword).length + (if ([] : List Keyword).isEmpty then 0 else 1) < 30)) = true

theorem e_append {o e : Expr} {apos pos : Pos} {Q : Loc → St → Prop}
    (h : WE C o σ fun r σ₁ => ∃ k xs, r = .own k ∧ σ₁.O[k]? = some (some xs) ∧ WE C e σ₁ fun a σ₂ => ∃ p ys, a = .pv p ∧ σ₂.O[k]? = some (some ys) ∧ ys.length < 1000000 ∧ Q (.pv .none) (σ₂.setO k (some (ys ++ [p]))))
    (hbase : attributeBase o (Str.ofString "append") C.env (eval o C.env) = eval o C.env := by with_unfolding_all rfl) (hfew : fewArgs C [e] pos := by with_unfolding_all rfl)
    (hline : (apos.endLine == pos.line) = true := by with_unfolding_all rfl) (he : backTo pos (starEach [e] C.env) = [(false, eval e C.env)] := by with_unfolding_all rfl) : WE C (.Call (.Attribute o (Str.ofString "append") apos) [e] [] pos) σ Q := fun A E s V ads Q' rm R g => by
  refine wpAny_Call_method hbase hfew hline PySem.F.plainAttrs_list PySem.F.slot_list_append PySem.F.type_list_append (h A E s V ads _ rm R fun v s₁ V₁ ads₁ r σ₁ le₁ pr₁ R₁ r₁ h₁ => ?_)
  obtain ⟨k, xs, rfl, hk, h₁⟩ := h₁
  obtain ⟨l, vs, n, rfl, hl, hg, rs⟩ := own_at R₁ r₁ hk
  refine ⟨⟨_, hg, rfl⟩, fun a e => by cases e; exact ⟨_, hg, rfl⟩, ?_⟩
  rw [he]
  refine P.append_list (h₁ A E s₁ V₁ ads₁ _ rm R₁ fun y s₂ V₂ ads₂ a σ₂ le₂ pr₂ R₂ r₂ h₂ => ?_)
  obtain ⟨p, ys, rfl, hk₂, hz, q⟩ := h₂
  obtain ⟨l', us, m, e', hl', hg', rs'⟩ := own_at R₂ (r₁.mono le₂ pr₂) hk₂
  cases e'
  have hlen := rs'.length
  simp only [Array.length_toList] at hlen
  refine ⟨us, m, by rw [sizeLine_eq]; lia, hg', ?_⟩
  have R₃ := R₂.setO (s' := { s₂ with heap := s₂.heap.update l (Obj.mapSeq fun xs => xs.push y) }) (ys := ys ++ [p]) hk₂ hl' ⟨_, _, rfl⟩ (upd_keeps l _) (IsL.update hg' _) (by simpa using rs'.append (.cons r₂ .nil))
  exact g .none _ V₂ ads₂ (.pv .none) _ (le₁.trans le₂) (pr₁.trans pr₂) R₃ (by simp only [LocRep, Rep]) q

theorem e_pop {o e : Expr} {apos pos : Pos} {Q : Loc → St → Prop}
    (h : WE C o σ fun r σ₁ => ∃ k xs, r = .own k ∧ σ₁.O[k]? = some (some xs) ∧ WE C e σ₁ fun a σ₂ => ∃ i ys y, a = .pv (.int (i : Nat)) ∧ σ₂.O[k]? = some (some ys) ∧ ys.length < 1000000 ∧ ys[i]? = some y ∧ Q (.pv y) (σ₂.setO k (some (ys.eraseIdx i))))
    (hbase : attributeBase o (Str.ofString "pop") C.env (eval o C.env) = eval o C.env := by with_unfolding_all rfl) (hfew : fewArgs C [e] pos := by with_unfolding_all rfl)
    (hline : (apos.endLine == pos.line) = true := by with_unfolding_all rfl) (he : backTo pos (starEach [e] C.env) = [(false, eval e C.env)] := by with_unfolding_all rfl) : WE C (.Call (.Attribute o (Str.ofString "pop") apos) [e] [] pos) σ Q := fun A E s V ads Q' rm R g => by
  refine wpAny_Call_method hbase hfew hline PySem.F.plainAttrs_list PySem.F.slot_list_pop PySem.F.type_list_pop (h A E s V ads _ rm R fun v s₁ V₁ ads₁ r σ₁ le₁ pr₁ R₁ r₁ h₁ => ?_)
  obtain ⟨k, xs, rfl, hk, h₁⟩ := h₁
  obtain ⟨l, vs, n, rfl, hl, hg, rs⟩ := own_at R₁ r₁ hk
  refine ⟨⟨_, hg, rfl⟩, fun a e => by cases e; exact ⟨_, hg, rfl⟩, ?_⟩
  rw [he]
  refine P.pop_at_list (h₁ A E s₁ V₁ ads₁ _ rm R₁ fun y s₂ V₂ ads₂ a σ₂ le₂ pr₂ R₂ r₂ h₂ => ?_)
  obtain ⟨i, ys, z, rfl, hk₂, hz, hy, q⟩ := h₂
  obtain ⟨l', us, m, e', hl', hg', rs'⟩ := own_at R₂ (r₁.mono le₂ pr₂) hk₂
  cases e'
  simp only [LocRep, Rep] at r₂
  obtain ⟨t, rfl⟩ := r₂
  have hlen := rs'.length
  simp only [Array.length_toList] at hlen
  obtain ⟨u, hu, ru⟩ := rs'.get hy
  have hi : i < us.size := by
    have := (List.getElem?_eq_some_iff.mp hu).1
    simpa using this
  refine ⟨us, m, i, t, i, u, by rw [sizeLine_eq]; lia, rfl, hg', by simp [Builtin.List.listFitsIndex]; lia, ?_, by simpa using hu, ?_⟩
  · unfold seqIndex?
    simp only [Int.natCast_nonneg]
    split <;> simp_all <;> lia
  have R₃ := R₂.setO (s' := { s₂ with heap := s₂.heap.update l (Obj.mapSeq fun xs => xs.eraseIdxIfInBounds i) }) (ys := ys.eraseIdx i) hk₂ hl' ⟨_, _, rfl⟩ (upd_keeps l _) (IsL.update hg' _) (by
    have e1 : (us.eraseIdxIfInBounds i).toList = us.toList.eraseIdx i := by
      unfold Array.eraseIdxIfInBounds
      rw [dif_pos hi]
      simp
    rw [e1]; exact rs'.eraseIdx i)
  exact g u _ V₂ ads₂ (.pv z) _ (le₁.trans le₂) (pr₁.trans pr₂) R₃ ru q

theorem e_bitlen {o : Expr} {apos pos : Pos} {Q : Loc → St → Prop} (h : WE C o σ fun r σ₁ => ∃ i, r = .pv (.int i) ∧ Q (.pv (.int (Builtin.Int.intBits i))) σ₁)
    (hbase : attributeBase o (Str.ofString "bit_length") C.env (eval o C.env) = eval o C.env := by with_unfolding_all rfl) (hfew : fewArgs C [] pos := by with_unfolding_all rfl)
    (hline : (apos.endLine == pos.line) = true := by with_unfolding_all rfl) : WE C (.Call (.Attribute o (Str.ofString "bit_length") apos) [] [] pos) σ Q := fun A E s V ads Q' rm R g => by
  rw [arm_eval_Call, hbase]
  refine wpAny_bind (h A E s V ads _ rm R fun v s₁ V₁ ads₁ r σ₁ le₁ pr₁ R₁ r₁ h₁ => ?_)
  obtain ⟨i, rfl, q⟩ := h₁
  simp only [LocRep, Rep] at r₁
  obtain ⟨t, rfl⟩ := r₁
  refine wpAny_bind (wpAny_standAt ?_)
  have hform : methodCallForm (([] : List Expr).length + ([] : List Keyword).length) (backTo pos (starEach [] C.env)) (backToKw pos (keywordEach [] C.env)) = true := hfew
  have hpos : methodCallPos true o C.env apos pos = pure pos := by unfold methodCallPos; simp [hline]
  unfold methodCall
  rw [hform]
  refine wpAny_bind (wpAny_holding (getMethod_int_bit_length ?_))
  refine wpAny_bind (wpAny_of_eq hpos ?_)
  refine Calls.callWith_builtin rfl (PyProof.Rows.evalArgs_nil3 ?_)
  exact call_int_bit_length (g _ _ V₁ ads₁ (.pv (.int (Builtin.Int.intBits i))) σ₁ le₁ pr₁ (R₁.tok _) (by simp only [LocRep, Rep]; exact ⟨_, rfl⟩) q)

/-! an item stored -/
theorem setItem_lst {prog : Program} {w : World} {A : Around} {E : Value → Shared → Prop} {s : Shared} {l : Addr} {items : Array Value} {n : Nat} {k : Int} {t : Tok} {v : Value} {Q : Unit → Shared → Prop} (hl : s.heap.get? l = some (lst items n))
    (h0 : 0 ≤ k) (hfit : k < 2 ^ 63) (hn : k < items.size) (hQ : Q () { s with heap := s.heap.update l (Obj.mapSeq (·.setIfInBounds k.toNat v)) }) : wpAny (model prog w) A (setItem (.ref l) (.int k t) v) Q E s := by
  have hT : s.TypeIs (.ref l) "list" := ⟨_, hl, rfl⟩
  unfold setItem
  try with_reducible refine wpAny_holding ?_
  first | refine wpAny_bind (wpAny_pure ?_) | skip
  refine wpAny_bind (wpAny_sequenceKey hT (by decide) ?_)
  refine wpAny_bind (wpAny_callSpecial?_slot (name := Str.ofString "__setitem__") hT slot_list_setitem
    (wpAny_call_entry slot_list_setitem hT entry_list_setitem ?_ (args_list_setitem _ _ _)))
  show wpAny _ _ (Builtin.List.listSubscript? (.int k t) >>= _) _ _ s
  refine wpAny_bind (wpAny_listSubscript_int (fitsIndex_of h0 hfit) ?_)
  clear hfit
  obtain ⟨j, rfl⟩ := Int.eq_ofNat_of_zero_le h0
  have hj : j < items.size := by lia
  have hx' : items[j]? = some items[j] := Array.getElem?_eq_getElem hj
  show wpAny _ _ ((seqItemAt l j >>= fun r => pure (r.map (j, ·))) >>= _) _ _ s
  refine wpAny_bind (wpAny_bind (wpAny_seqItemAt hl rfl (wpAny_pure ?_)))
  rw [hx']
  show wpAny _ _ (setSeqItemAt l j v >>= _) _ _ s
  refine wpAny_bind (wpAny_setSeqItemAt hl rfl ?_)
  first
    | exact wpAny_bind (wpAny_pure (wpAny_pure ⟨.none, rfl, wpAny_pure hQ⟩))
    | exact wpAny_pure ⟨.none, rfl, wpAny_pure hQ⟩

theorem s_setitem {o i value : Expr} {p' pos : Pos} {Q : RF → St → Prop}
    (h : WE C value σ fun a σ₁ => ∃ p, a = .pv p ∧ WE C o σ₁ fun r σ₂ => WE C i σ₂ fun j σ₃ => ∃ (k n : Nat) (xs : List PV), r = .own k ∧ j = .pv (.int n) ∧ σ₃.O[k]? = some (some xs) ∧ n < xs.length ∧ n < 1000000 ∧ Q .next (σ₃.setO k (some (xs.set n p))))
    (hs : swapsWith value (some (.Subscript o i p')) pos.line C.env = pure false := by with_unfolding_all rfl) : WS C (.Assign [.Subscript o i p'] value pos) σ Q := fun A E s V ads Q' rm R g => by
  refine wpAny_Assign_Subscript (h A E s V ads _ rm R fun v s₁ V₁ ads₁ a σ₁ le₁ pr₁ R₁ r₁ h₁ => ?_) hs
  obtain ⟨p, rfl, h₁⟩ := h₁
  refine h₁ A E s₁ V₁ ads₁ _ rm R₁ fun ov s₂ V₂ ads₂ r σ₂ le₂ pr₂ R₂ r₂ h₂ => ?_
  refine h₂ A E s₂ V₂ ads₂ _ rm R₂ fun iv s₃ V₃ ads₃ j σ₃ le₃ pr₃ R₃ r₃ h₃ => ?_
  obtain ⟨k, n, xs, rfl, rfl, hk, hn, hb, q⟩ := h₃
  obtain ⟨l, us, m, rfl, hl, hg, rs⟩ := own_at R₃ (r₂.mono le₃ pr₃) hk
  simp only [LocRep, Rep] at r₃
  obtain ⟨t, rfl⟩ := r₃
  have hlen := rs.length
  simp only [Array.length_toList] at hlen
  refine setItem_lst hg (Int.natCast_nonneg n) (by lia) (by lia) ?_
  have R₄ := R₃.setO (s' := { s₃ with heap := s₃.heap.update l (Obj.mapSeq (·.setIfInBounds n v)) }) (ys := xs.set n p) hk hl ⟨_, _, rfl⟩ (upd_keeps l _) (IsL.update hg _) (by
    have := rs.set ((r₁.mono le₂ pr₂).mono le₃ pr₃) n
    simpa using this)
  exact g .next _ V₃ ads₃ RF.next _ (le₁.trans (le₂.trans le₃)) (pr₁.trans (pr₂.trans pr₃)) R₄ rfl q

/-! targets -/
abbrev WAsg (C : Cx) (t : Expr) (r : Loc) (σ : St) (Q : St → Prop) : Prop := W1 C UnitRep (fun v => assign t C.env v) r σ fun _ σ' => Q σ'
abbrev WAsgs (C : Cx) (es : List Expr) (rs : List Loc) (σ : St) (Q : St → Prop) : Prop := WA C UnitRep (fun vs => assignInOrder ((assignEach es C.env).map (·.2)) vs) rs σ fun _ σ' => Q σ'
theorem a_name {x : Str} {p : Pos} {r : Loc} {Q : St → Prop} (hx : Storable C x) (q : Q (σ.put x r)) : WAsg C (.Name x p) r σ Q := fun A E s V ads Q' v rm R hr g =>
  wpAny_assign_Name (R.put hr hx.1 hx.2 fun s' R' => g.at (a := ()) R' trivial q)
theorem as_nil {Q : St → Prop} (q : Q σ) : WAsgs C [] [] σ Q := fun A E s V ads Q' vs rm R hr g => by
  have hv : vs = [] := hr
  subst hv
  exact wpAny_pure (g.at (a := ()) R trivial q)
theorem as_cons {t : Expr} {rest : List Expr} {r : Loc} {rs : List Loc} {Q : St → Prop} (h : WAsg C t r σ fun σ₁ => WAsgs C rest rs σ₁ Q) (he : assignEach (t :: rest) C.env = (false, assign t C.env) :: assignEach rest C.env := by with_unfolding_all rfl) : WAsgs C (t :: rest) (r :: rs) σ Q := fun A E s V ads Q' vs rm R hr g => by
  obtain ⟨v, vs', rfl, hv, hs⟩ := hr
  rw [he]
  show wpAny _ A (do holding vs' (assign t C.env v); assignInOrder ((assignEach rest C.env).map (·.2)) vs') _ E s
  refine wpAny_bind (wpAny_holding (h A E s V ads _ v rm R hv fun _ s₁ V₁ ads₁ _ σ₁ le₁ pr₁ R₁ _ h₁ => ?_))
  exact h₁ A E s₁ V₁ ads₁ Q' vs' rm R₁ (hs.mono le₁ pr₁) (g.later le₁ pr₁)

theorem locs_len {V : View} {ads : List Addr} : ∀ {rs : List Loc} {vs : List Value}, Locs V ads rs vs → vs.length = rs.length
  | [], _, e => by rw [show _ = [] from e]; rfl
  | _ :: rs, _, ⟨v, vs', e, hv, hs⟩ => by rw [e, List.length_cons, List.length_cons, locs_len hs]

theorem assign_tuple_at {es : List Expr} {k : Nat} {p : Pos} {t : Addr} {vals : Array Value} {rs : List Loc} {V : View} {ads : List Addr} {A : Around} {E : Value → Shared → Prop} {s : Shared} {Q : St → Prop} {Q' : Unit → Shared → Prop} (rm : RoomF A C.d C.fr) (R : C.R σ V ads s)
    (ht : s.heap.IsTuple t vals) (hr : Locs V ads rs vals.toList) (hn : (assignEach es C.env).length = rs.length) (hstar : (assignEach es C.env).findIdx? (·.1) = none) (h : WAsgs C es rs σ Q) (g : Goes C UnitRep (fun _ σ' => Q σ') V ads Q') :
    wpAny (model C.prog C.w) A (assign (.Tuple es k p) C.env (.ref t)) Q' E s := by
  have hl := locs_len hr
  simp only [Array.length_toList] at hl
  refine wpAny_assign_Tuple rm.handled ht (hn.trans hl.symm) hstar fun h' ex => ?_
  have kp : ∀ b o, s.heap.get? b = some o → h'.get? b = some o := fun b o e => ex b o (Nat.ne_of_lt (Heap.lt_size e)) e
  exact h A E { s with heap := h' } V ads Q' vals.toList rm (R.keeps ⟨h', s.toks, rfl⟩ kp) hr g

theorem locs_of_reps {V : View} {ads : List Addr} : ∀ (xs : List PV) (vs : List Value), Reps V xs vs → Locs V ads (xs.map Loc.pv) vs
  | [], vs, h => h.nil_inv
  | x :: xs, vs, h => by
    obtain ⟨v, vs', e, hv, hs⟩ := h.cons_inv
    exact ⟨v, vs', e, hv, locs_of_reps xs vs' hs⟩

theorem a_tup {es : List Expr} {k : Nat} {p : Pos} {xs : List PV} {Q : St → Prop} (h : WAsgs C es (xs.map Loc.pv) σ Q) (hn : (assignEach es C.env).length = xs.length := by with_unfolding_all rfl) (hstar : (assignEach es C.env).findIdx? (·.1) = none := by with_unfolding_all rfl) :
    WAsg C (.Tuple es k p) (.pv (.tup xs)) σ Q := fun A E s V ads Q' v rm R hr g => by
  simp only [LocRep, Rep] at hr
  obtain ⟨l, vs, n, rfl, hl, rs⟩ := hr
  exact assign_tuple_at (vals := vs) rm R ⟨_, R.sees _ _ hl, rfl, n, rfl⟩ (locs_of_reps xs _ rs) (by rw [List.length_map]; exact hn) hstar h g

/-- x, y = call(..) -/
theorem s_unpack {es : List Expr} {k : Nat} {tpos pos : Pos} {value : Expr} {Q : RF → St → Prop} (h : WE C value σ fun r σ₁ => WAsg C (.Tuple es k tpos) r σ₁ fun σ₂ => Q .next σ₂)
    (hs : swapsWithSole [.Tuple es k tpos] value pos.line C.env = pure false := by with_unfolding_all rfl) (hw : swappedStores [.Tuple es k tpos] value C.env = pure none := by with_unfolding_all rfl) : WS C (.Assign [.Tuple es k tpos] value pos) σ Q := fun A E s V ads Q' rm R g =>
  Assign_Tuple (h A E s V ads _ rm R fun v s₁ V₁ ads₁ r σ₁ le₁ pr₁ R₁ r₁ h₁ =>
    h₁ A E s₁ V₁ ads₁ _ v rm R₁ r₁ fun _ s₂ V₂ ads₂ _ σ₂ le₂ pr₂ R₂ _ q => g .next s₂ V₂ ads₂ RF.next σ₂ (le₁.trans le₂) (pr₁.trans pr₂) R₂ rfl q) hs hw

/-- x, y = (a, b), the stores in their order -/
theorem s_assign_tup {es vs : List Expr} {k k' : Nat} {tpos vpos pos : Pos} {Q : RF → St → Prop} (h : WL C vs vpos σ fun rs σ₁ => (rs.length = es.length ∧ es.length ≤ 100) ∧ WAsgs C es rs σ₁ fun σ₂ => Q .next σ₂)
    (hn : (assignEach es C.env).length = es.length := by with_unfolding_all rfl) (hstar : (assignEach es C.env).findIdx? (·.1) = none := by with_unfolding_all rfl)
    (hs : swapsWithSole [.Tuple es k tpos] (.Tuple vs k' vpos) pos.line C.env = pure false := by with_unfolding_all rfl) (hw : swappedStores [.Tuple es k tpos] (.Tuple vs k' vpos) C.env = pure none := by with_unfolding_all rfl) : WS C (.Assign [.Tuple es k tpos] (.Tuple vs k' vpos) pos) σ Q := fun A E s V ads Q' rm R g => by
  refine Assign_Tuple (wpAny_Tuple (h A E s V ads _ rm R fun us s₁ V₁ ads₁ rs σ₁ le₁ pr₁ R₁ r₁ h₁ => ?_)) hs hw
  obtain ⟨⟨hlen, hb⟩, h₁⟩ := h₁
  have hu := locs_len r₁
  refine ⟨by rw [sizeLine_eq]; lia, ?_⟩
  refine assign_tuple_at (s := { s₁ with heap := s₁.heap.push (tpl us.toArray 0) }) (vals := us.toArray) rm (R₁.keeps ⟨_, _, rfl⟩ (push_keeps _)) ⟨_, Heap.get?_push_size _ rfl, rfl, 0, rfl⟩ (by simpa using r₁) (hn.trans hlen.symm) hstar h₁ fun _ s₂ V₂ ads₂ _ σ₂ le₂ pr₂ R₂ _ q => ?_
  exact g .next s₂ V₂ ads₂ RF.next σ₂ (le₁.trans le₂) (pr₁.trans pr₂) R₂ rfl q

abbrev WNames (C : Cx) (xs : List Str) (rs : List Loc) (σ : St) (Q : St → Prop) : Prop := WA C UnitRep (fun vs => assignInOrder (xs.map fun n => bindName C.env n) vs) rs σ fun _ σ' => Q σ'
theorem n_nil {Q : St → Prop} (q : Q σ) : WNames C [] [] σ Q := fun A E s V ads Q' vs rm R hr g => by
  have hv : vs = [] := hr
  subst hv
  exact wpAny_pure (g.at (a := ()) R trivial q)
theorem n_cons {x : Str} {rest : List Str} {r : Loc} {rs : List Loc} {Q : St → Prop} (hx : Storable C x) (h : WNames C rest rs (σ.put x r) Q) : WNames C (x :: rest) (r :: rs) σ Q := fun A E s V ads Q' vs rm R hr g => by
  obtain ⟨v, vs', rfl, hv, hs⟩ := hr
  show wpAny _ A (do holding vs' (bindName C.env x v); assignInOrder (rest.map fun n => bindName C.env n) vs') _ E s
  refine wpAny_bind (wpAny_holding (wpAny_bindName (R.put hv hx.1 hx.2 fun s₁ R₁ => ?_)))
  exact h A E s₁ V ads Q' vs' rm R₁ hs g

theorem locs_reverse {V : View} {ads : List Addr} : ∀ (rs : List Loc) (vs : List Value), Locs V ads rs vs → Locs V ads rs.reverse vs.reverse := by
  have app : ∀ (rs rs' : List Loc) (vs vs' : List Value), Locs V ads rs vs → Locs V ads rs' vs' → Locs V ads (rs ++ rs') (vs ++ vs') := by
    intro rs
    induction rs with
    | nil => intro rs' vs vs' h h'; rw [show vs = [] from h]; exact h'
    | cons r rs ih =>
      intro rs' vs vs' h h'
      obtain ⟨v, us, rfl, hv, hs⟩ := h
      exact ⟨v, us ++ vs', rfl, hv, ih _ _ _ hs h'⟩
  intro rs
  induction rs with
  | nil => intro vs h; rw [show vs = [] from h]; rfl
  | cons r rs ih =>
    intro vs h
    obtain ⟨v, us, rfl, hv, hs⟩ := h
    rw [List.reverse_cons, List.reverse_cons]
    exact app _ _ _ _ (ih _ hs) ⟨v, [], rfl, hv, rfl⟩

/-- x, y = (a, b) where the machine stores the last name first -/
theorem s_assign_sw {es vs : List Expr} {k k' : Nat} {tpos vpos pos : Pos} {names : List Str} {Q : RF → St → Prop} (hw : swappedStores [.Tuple es k tpos] (.Tuple vs k' vpos) C.env = pure (some names))
    (h : WL C vs vpos σ fun rs σ₁ => (rs.length = names.length ∧ names.length ≤ 100) ∧ WNames C names.reverse rs.reverse σ₁ fun σ₂ => Q .next σ₂)
    (hs : swapsWithSole [.Tuple es k tpos] (.Tuple vs k' vpos) pos.line C.env = pure false := by with_unfolding_all rfl) : WS C (.Assign [.Tuple es k tpos] (.Tuple vs k' vpos) pos) σ Q := fun A E s V ads Q' rm R g => by
  refine Assign_Tuple_swapped (names := names) (wpAny_Tuple (h A E s V ads _ rm R fun us s₁ V₁ ads₁ rs σ₁ le₁ pr₁ R₁ r₁ h₁ => ?_)) hs hw
  obtain ⟨⟨hlen, hb⟩, h₁⟩ := h₁
  have hu := locs_len r₁
  refine ⟨by rw [sizeLine_eq]; lia, ?_⟩
  have hsz : names.length = us.toArray.size := by simp [hu, hlen]
  rw [hsz]
  refine wpAny_unpackItems_tuple (s := { s₁ with heap := s₁.heap.push (tpl us.toArray 0) }) rm.handled ⟨_, Heap.get?_push_size _ rfl, rfl, 0, rfl⟩ fun h' ex => ?_
  have kp : ∀ b o, s₁.heap.get? b = some o → h'.get? b = some o := fun b o e => by
    refine ex b o (Nat.ne_of_lt ?_) (push_keeps _ b o e)
    show b < (s₁.heap.push _).objs.size
    rw [Heap.size_push]
    exact Nat.lt_succ_of_lt (Heap.lt_size e)
  show wpAny _ A (assignInOrder _ us.reverse) _ E _
  refine h₁ A E _ V₁ ads₁ _ us.reverse rm (R₁.keeps ⟨h', s₁.toks, rfl⟩ kp) (locs_reverse _ _ r₁) fun _ s₂ V₂ ads₂ _ σ₂ le₂ pr₂ R₂ _ q => ?_
  exact g .next s₂ V₂ ads₂ RF.next σ₂ (le₁.trans le₂) (pr₁.trans pr₂) R₂ rfl q
end

end CR
namespace CR
open PySem PySem.W PyProof.Rows

def FnAt (K : Frag) (a : Addr) (params : Arguments) (body : List Stmt) (scope : Scope) : Prop :=
  ∃ nm q doc pm an cdv ct oc od osl, K.lookup a = some ⟨oc, od, .func (fnOf nm q params body scope .none .none doc pm an cdv ct), osl⟩ ∧ codeIn K cdv q = true
theorem FnAt.keep {K : Frag} {a : Addr} {params : Arguments} {body : List Stmt} {scope : Scope} (h : FnAt K a params body scope) : keepIn K (.ref a) = true := by
  obtain ⟨nm, q, doc, pm, an, cdv, ct, oc, od, osl, h, _⟩ := h
  unfold keepIn
  simp only [h]

def envF (scope : Scope) (q : Str) (L a : Addr) (cd : Value) : Env := { scope := scope, locals := L, globals := mainGlobals, cells := cellsFrom (L + 1) scope.names [], qual := q ++ ".<locals>.", func := some a, code := cd, frame := some L, builtins := builtinsNs }

def OutsAre (m : Nat) (σ : St) (outs : List (List PV)) : Prop := outs.length = m ∧ ∀ (k : Nat) xs, outs[k]? = some xs → σ.O[k]? = some (some xs)
def ResOf (m : Nat) (σ : St) : Loc → Res → Prop
  | .pv p, r => r = .val p
  | .own k, r => ∃ xs, m ≤ k ∧ σ.O[k]? = some (some xs) ∧ r = .fresh xs
def Fin (m : Nat) (Q : Res → List (List PV) → Prop) : RF → St → Prop
  | .ret l, σ => ∃ outs r, OutsAre m σ outs ∧ ResOf m σ l r ∧ Q r outs
  | .next, σ => ∃ outs, OutsAre m σ outs ∧ Q (.val .none) outs
  | _, _ => False

theorem bindL_out (kd : Str → Option NameKind) : ∀ (binds : List (Str × Value)) (m : Str → Option Value) (x : Str), x ∉ binds.map (·.1) → bindL kd binds m x = m x
  | [], _, _, _ => rfl
  | (n, v) :: r, m, x, h => by
    simp only [List.map_cons, List.mem_cons, not_or] at h
    unfold bindL
    rw [bindL_out kd r _ x h.2]
    split
    · simp only [if_neg h.1]
    · rfl
theorem bindC_out (kd : Str → Option NameKind) : ∀ (binds : List (Str × Value)) (m : Str → Option Value) (x : Str), x ∉ binds.map (·.1) → bindC kd binds m x = m x
  | [], _, _, _ => rfl
  | (n, v) :: r, m, x, h => by
    simp only [List.map_cons, List.mem_cons, not_or] at h
    unfold bindC
    rw [bindC_out kd r _ x h.2]
    split
    · rfl
    · simp only [if_neg h.1]
theorem bindL_in (kd : Str → Option NameKind) : ∀ (binds : List (Str × Value)) (m : Str → Option Value) (x : Str) (v : Value), (binds.map (·.1)).Nodup → (x, v) ∈ binds → kd x = some .local → bindL kd binds m x = some v
  | (n, u) :: r, m, x, v, nd, h, hk => by
    simp only [List.map_cons, List.nodup_cons] at nd
    unfold bindL
    rcases List.mem_cons.mp h with e | h
    · cases e
      rw [bindL_out kd r _ _ nd.1, if_pos hk]
      simp
    · exact bindL_in kd r _ x v nd.2 h hk
theorem bindC_in (kd : Str → Option NameKind) : ∀ (binds : List (Str × Value)) (m : Str → Option Value) (x : Str) (v : Value), (binds.map (·.1)).Nodup → (x, v) ∈ binds → kd x ≠ some .local → bindC kd binds m x = some v
  | (n, u) :: r, m, x, v, nd, h, hk => by
    simp only [List.map_cons, List.nodup_cons] at nd
    unfold bindC
    rcases List.mem_cons.mp h with e | h
    · cases e
      rw [bindC_out kd r _ _ nd.1, if_neg hk]
      simp
    · exact bindC_in kd r _ x v nd.2 h hk

theorem lookup_zip_mem : ∀ (names : List Str) (ls : List Loc) (x : Str) (l : Loc), (names.zip ls).lookup x = some l → ∃ k : Nat, names[k]? = some x ∧ ls[k]? = some l
  | [], _, x, l, h => by simp at h
  | _ :: _, [], x, l, h => by simp at h
  | n :: ns, l' :: ls, x, l, h => by
    rw [List.zip_cons_cons, List.lookup_cons] at h
    cases e : x == n with
    | true =>
      rw [e] at h; cases h
      exact ⟨0, by rw [beq_iff_eq.mp e]; rfl, rfl⟩
    | false =>
      rw [e] at h
      obtain ⟨k, h1, h2⟩ := lookup_zip_mem ns ls x l h
      exact ⟨k + 1, h1, h2⟩

def owns (m : Nat) : List Loc := (List.range m).map Loc.own

section
variable {prog : Program} {w : World} {K : Frag}

theorem fcall_enterF {fr : Around → Prop} {fr' : Env → Around → Prop} (hfr : ∀ A env, fr A → fr' env (A.deeper env)) {a : Addr} {d : Nat} {params : Arguments} {body : List Stmt} {scope : Scope} {lx : List (List PV)} {ps : List PV} {Q : Res → List (List PV) → Prop} (hfn : FnAt K a params body scope) (names : List Str)
    (hbind : ∀ nm q doc pm an cdv ct (vals : List Value), vals.length = names.length → bindArgs (fnOf nm q params body scope .none .none doc pm an cdv ct) ⟨vals, []⟩ = pure (names.zip vals))
    (hkind : ∀ n, ∀ x ∈ names, scope.names.lookup x = some .local ∨ (scope.names.lookup x = some .cell ∧ ((cellsFrom n scope.names []).lookup x).isSome = true))
    (hnd : names.Nodup) (hlen : lx.length + ps.length = names.length)
    (h : ∀ (bs : Base) (L : Addr) (q : Str) (cd : Value), bs.lent.length = lx.length → bs.cellsOwn = true → WB ⟨prog, w, K, bs, envF scope q L a cd, d, fr' (envF scope q L a cd)⟩ body { ρ := names.zip (owns lx.length ++ ps.map Loc.pv), O := lx.map some } (Fin lx.length Q))
    (hk : scope.kind = .function := by with_unfolding_all rfl) (hco : scope.isCoroutine = false := by with_unfolding_all rfl) (hgen : scope.isGenerator = false := by with_unfolding_all rfl) : FCallF fr prog w K (d + 1) a lx ps Q := fun A E s V lads vs Q' hA rm gl se lo nd rs back => by
  obtain ⟨nm, q, doc, pm, an, cdv, ct, oc, od, osl, hK, hcd⟩ := hfn
  have G := gl s.heap se
  have hlads := lo.1
  have hvl : (lads.map Value.ref ++ vs).length = names.length := by
    rw [List.length_append, List.length_map, rs.length, ← hlads, hlen]
  refine wpAny_call (codeAny_call_cells (fd := fnOf nm q params body scope .none .none doc pm an cdv ct) (binds := names.zip (lads.map Value.ref ++ vs)) (by have := rm.depth; lia) (G.K _ _ hK) rfl G.nolimit (codeRec_of G.K hcd) rfl (hbind nm q doc pm an cdv ct _ hvl) rfl
    (fun x hx => hkind _ x.1 (List.of_mem_zip hx).1) (fun s₁ ic => ?_) hco hgen hk)
  obtain ⟨h₁, tk, e₁⟩ := ic.toInCall.same
  have hL : (callEnvC (fnOf nm q params body scope .none .none doc pm an cdv ct) s.heap.objs.size a) = envF scope q s.heap.objs.size a cdv := rfl
  rw [hL] at ic ⊢
  have bn : ((names.zip (lads.map Value.ref ++ vs)).map (·.1)).Nodup := by
    rw [List.map_fst_zip (by rw [hvl]; exact Nat.le_refl _)]
    exact hnd
  let bs : Base := { s₀ := s, V₀ := V, kv := fun b => if b ∈ lads then none else s.heap.get? b, lent := lads, cellsOwn := true }
  have kvs : ∀ b o, bs.kv b = some o → s.heap.get? b = some o := fun b o e => by
    simp only [bs] at e
    split at e
    · cases e
    · exact e
  have out : ∀ b, s.heap.objs.size ≤ b → V b = none ∧ bs.kv b = none := fun b hb => by
    have hn := get?_ge hb
    refine ⟨se.none_of hn, ?_⟩
    cases e : bs.kv b with
    | none => rfl
    | some o => rw [kvs _ _ e] at hn; cases hn
  have R : Rel K bs (envF scope q s.heap.objs.size a cdv) { ρ := names.zip (owns lx.length ++ ps.map Loc.pv), O := lx.map some } V lads s₁ := {
    same := ic.toInCall.same
    sees := se.keeps ic.toInCall.keep
    glob := gl
    keep := fun b o e => ic.toInCall.keep b o (kvs b o e)
    vnew := fun b o e => .inl ⟨o, e⟩
    frame := by
      refine ⟨_, ic.toInCall.ns, fun x l e => ?_⟩
      obtain ⟨k, hx, hl⟩ := lookup_zip_mem _ _ _ _ e
      have hkl : k < (lads.map Value.ref ++ vs).length := by
        rw [hvl]; exact (List.getElem?_eq_some_iff.mp hx).1
      obtain ⟨v, hv⟩ : ∃ v, (lads.map Value.ref ++ vs)[k]? = some v := ⟨_, List.getElem?_eq_getElem hkl⟩
      have hmem : (x, v) ∈ names.zip (lads.map Value.ref ++ vs) := by
        have : (names.zip (lads.map Value.ref ++ vs))[k]? = some (x, v) := by
          rw [List.getElem?_zip_eq_some]; exact ⟨hx, hv⟩
        exact List.mem_of_getElem? this
      refine ⟨v, ?_, ?_⟩
      · by_cases hkm : k < lx.length
        · rw [List.getElem?_append_left (by simpa [owns] using hkm)] at hl
          simp only [owns, List.getElem?_map, List.getElem?_range hkm, Option.map_some, Option.some.injEq] at hl
          subst hl
          rw [List.getElem?_append_left (by rw [List.length_map, ← hlads]; exact hkm)] at hv
          simp only [List.getElem?_map, Option.map_eq_some_iff] at hv
          obtain ⟨l₀, h1, h2⟩ := hv
          exact ⟨l₀, h1, h2.symm⟩
        · rw [List.getElem?_append_right (by simpa [owns] using Nat.not_lt.mp hkm)] at hl
          simp only [owns, List.length_map, List.length_range, List.getElem?_map, Option.map_eq_some_iff] at hl
          obtain ⟨p, h1, rfl⟩ := hl
          rw [List.getElem?_append_right (by rw [List.length_map, ← hlads]; exact Nat.not_lt.mp hkm), List.length_map, ← hlads] at hv
          obtain ⟨u, h2, h3⟩ := rs.get h1
          rw [h2] at hv; cases hv
          exact h3
      · rcases hkind (s.heap.objs.size + 1) x (List.mem_of_getElem? hx) with hloc | ⟨hc, hs⟩
        · exact .inl ⟨hloc, bindL_in _ _ _ x v bn hmem hloc⟩
        · obtain ⟨c, hc'⟩ := Option.isSome_iff_exists.mp hs
          refine .inr ⟨.inl hc, c, hc', ?_⟩
          have := ic.cell x c hc'
          rwa [bindC_in _ _ _ x v bn hmem (by show scope.names.lookup x ≠ _; rw [hc]; simp)] at this
    Lnew := Nat.le_refl _
    hL := (out _ (Nat.le_refl _)).1
    kL := (out _ (Nat.le_refl _)).2
    cells := fun _ x c e => by
      have hlt : s.heap.objs.size < c := ic.above x c (mem_of_lookup e)
      exact ⟨⟨_, ic.cell x c e⟩, (out c (Nat.le_of_lt hlt)).1, (out c (Nat.le_of_lt hlt)).2, fun y ey => name_of_addr ic.apart (mem_of_lookup ey) (mem_of_lookup e)⟩
    olen := by rw [List.length_map]; exact hlads.symm
    own := fun k xs e => by
      simp only [List.getElem?_map, Option.map_eq_some_iff, Option.some.injEq, exists_eq_right] at e
      obtain ⟨l, us, n, h1, h2, h3, h4⟩ := lo.2 k xs e
      refine ⟨l, us, n, h1, ic.toInCall.keep _ _ h2, h3, h4, ?_⟩
      simp only [bs]
      rw [if_pos (List.mem_of_getElem? h1)]
    inj := nd
    onew := fun k l hl e => absurd (List.getElem?_eq_some_iff.mp e).1 (Nat.not_lt.mpr hl)
    lentP := Pre.refl _
    aex := fun l hl => by
      obtain ⟨k, hkl, e⟩ := List.getElem_of_mem hl
      obtain ⟨xs, hx⟩ : ∃ xs, lx[k]? = some xs := ⟨_, List.getElem?_eq_getElem (by rw [hlads]; exact hkl)⟩
      obtain ⟨l', us, n, h1, h2, _⟩ := lo.2 k xs hx
      rw [List.getElem?_eq_getElem hkl, e] at h1
      cases h1
      exact ⟨_, ic.toInCall.keep _ _ h2⟩
    akv := fun l hl => by
      simp only [bs]
      rw [if_pos hl]
    cex := fun x c e => by
      obtain ⟨o, ho, _⟩ := ic.cell x c e
      exact ⟨o, ho⟩
    adL := fun h => by
      obtain ⟨k, hkl, e⟩ := List.getElem_of_mem h
      obtain ⟨xs, hx⟩ : ∃ xs, lx[k]? = some xs := ⟨_, List.getElem?_eq_getElem (by rw [hlads]; exact hkl)⟩
      obtain ⟨l', us, n, h1, h2, _⟩ := lo.2 k xs hx
      rw [List.getElem?_eq_getElem hkl, e] at h1
      cases h1
      have h2' : s.heap.get? s.heap.objs.size = _ := h2
      exact absurd (Heap.lt_size h2') (Nat.lt_irrefl _)
    adC := fun x c e h => by
      have hlt : s.heap.objs.size < c := ic.above x c (mem_of_lookup e)
      obtain ⟨k, hkl, e⟩ := List.getElem_of_mem h
      obtain ⟨xs, hx⟩ : ∃ xs, lx[k]? = some xs := ⟨_, List.getElem?_eq_getElem (by rw [hlads]; exact hkl)⟩
      obtain ⟨l', us, n, h1, h2, _⟩ := lo.2 k xs hx
      rw [List.getElem?_eq_getElem hkl, e] at h1
      cases h1
      have h2' : s.heap.get? c = _ := h2
      exact absurd (Heap.lt_size h2') (Nat.not_lt.mpr (Nat.le_of_lt hlt)) }
  have rm' : Room (A.deeper (envF scope q s.heap.objs.size a cdv)) d := ⟨rm.handled, by show A.depth + 1 + d < _; have := rm.depth; lia, by show A.units + 3 + 4 * d + 100 < _; have := rm.units; lia⟩
  refine h bs s.heap.objs.size q cdv hlads.symm rfl (A.deeper _) _ s₁ V lads _ ⟨rm', hfr A _ hA⟩ R fun f s' V' ads' rf σ' le pr R' fr fin => ?_
  have lents : ∀ outs, OutsAre lx.length σ' outs → Lents V' s'.heap outs lads := fun outs ho => ⟨ho.1.trans hlads, fun k xs e => by
    obtain ⟨l, us, n, h1, h2, h3, h4, _⟩ := R'.own k xs (ho.2 k xs e)
    refine ⟨l, us, n, ?_, h2, h3, h4⟩
    have hkl : k < lads.length := by rw [← hlads, ← ho.1]; exact (List.getElem?_eq_some_iff.mp e).1
    have := pr.get (List.getElem?_eq_getElem hkl)
    rw [h1] at this
    rw [List.getElem?_eq_getElem hkl, ← this]⟩
  have kp : ∀ b o, b ∉ lads → s.heap.get? b = some o → s'.heap.get? b = some o := fun b o hb e => R'.keep b o (by simp only [bs]; rw [if_neg hb]; exact e)
  cases rf with
  | next =>
    cases fr
    obtain ⟨outs, ho, q⟩ := fin
    exact back .none s' V' outs (.val .none) R'.same le R'.sees (fun b o e => (R'.vnew b o e).imp id fun h => h.1) kp (lents outs ho) (by simp only [ResRep, Rep]) q
  | brk => exact fin.elim
  | cont => exact fin.elim
  | ret l =>
    obtain ⟨v, rfl, hv⟩ := fr
    obtain ⟨outs, r, ho, hr, q⟩ := fin
    refine back v s' V' outs r R'.same le R'.sees (fun b o e => (R'.vnew b o e).imp id fun h => h.1) kp (lents outs ho) ?_ q
    cases l with
    | pv p =>
      have : r = .val p := hr
      subst this
      exact hv
    | own k =>
      obtain ⟨xs, hm, hk, rfl⟩ := hr
      obtain ⟨l, us, n, h1, h2, h3, h4, _⟩ := R'.own k xs hk
      obtain ⟨l', h5, rfl⟩ := hv
      rw [h1] at h5; cases h5
      exact ⟨l, us, n, rfl, h2, h3, h4, R'.onew k l (by show lads.length ≤ k; rw [← hlads]; exact hm) h1⟩
theorem fcall_enter {a : Addr} {d : Nat} {params : Arguments} {body : List Stmt} {scope : Scope} {lx : List (List PV)} {ps : List PV} {Q : Res → List (List PV) → Prop} (hfn : FnAt K a params body scope) (names : List Str)
    (hbind : ∀ nm q doc pm an cdv ct (vals : List Value), vals.length = names.length → bindArgs (fnOf nm q params body scope .none .none doc pm an cdv ct) ⟨vals, []⟩ = pure (names.zip vals))
    (hkind : ∀ n, ∀ x ∈ names, scope.names.lookup x = some .local ∨ (scope.names.lookup x = some .cell ∧ ((cellsFrom n scope.names []).lookup x).isSome = true))
    (hnd : names.Nodup) (hlen : lx.length + ps.length = names.length)
    (h : ∀ (bs : Base) (L : Addr) (q : Str) (cd : Value), bs.lent.length = lx.length → bs.cellsOwn = true → WB ⟨prog, w, K, bs, envF scope q L a cd, d, fun _ => True⟩ body { ρ := names.zip (owns lx.length ++ ps.map Loc.pv), O := lx.map some } (Fin lx.length Q))
    (hk : scope.kind = .function := by with_unfolding_all rfl) (hco : scope.isCoroutine = false := by with_unfolding_all rfl) (hgen : scope.isGenerator = false := by with_unfolding_all rfl) : FCall prog w K (d + 1) a lx ps Q :=
  FCallF.plain (fcall_enterF (fr' := fun _ _ => True) (fun _ _ _ => trivial) hfn names hbind hkind hnd hlen h hk hco hgen)
end

end CR
namespace CR
open PySem PySem.W PyProof.Rows

inductive Item where
  | one (p : PV)
  | many (ps : List PV)

def ItemRep (V : View) (h : Heap) : Item → Value → Prop
  | .one p, v => Rep V p v
  | .many ps, v => ∃ T vals, v = .ref T ∧ h.IsTuple T vals ∧ Reps V ps vals.toList

structure Walker (prog : Program) (w : World) (A : Around) (V : View) (target : Expr) (I : Addr) (ow wr : List Addr) (items : List Item) (St : Nat → Heap → Prop) (Mid : Nat → Value → Heap → Prop) : Prop where
  own : ∀ b ∈ wr, b ∈ ow
  frame : ∀ i h h', St i h → Sees V h' → (∀ b ∈ ow, ∀ o, h.get? b = some o → h'.get? b = some o) → St i h'
  item : ∀ (i : Nat) x (s : Shared) (Q : Option Value → Shared → Prop) (E : Value → Shared → Prop), items[i]? = some x → St i s.heap →
    (∀ v h' tk, Mid i v h' → (∀ b o, b ∉ wr → s.heap.get? b = some o → h'.get? b = some o) → Q (some v) { s with heap := h', toks := tk }) → wpAny (model prog w) A (pyNext (.ref I)) Q E s
  go : ∀ (i : Nat) x v (s : Shared) (Q : Unit → Shared → Prop) (E : Value → Shared → Prop), items[i]? = some x → Mid i v s.heap →
    (∀ h', St (i + 1) h' → ItemRep V h' x v → (∀ b o, b ∉ wr → s.heap.get? b = some o → h'.get? b = some o) → Q () { s with heap := h' }) → wpAny (model prog w) A (letOwnedTupleGo target (.ref I) v) Q E s
  done : ∀ (s : Shared) (Q : Option Value → Shared → Prop) (E : Value → Shared → Prop), St items.length s.heap →
    (∀ h' tk, (∀ b o, b ∉ wr → s.heap.get? b = some o → h'.get? b = some o) → Q none { s with heap := h', toks := tk }) → wpAny (model prog w) A (pyNext (.ref I)) Q E s
  self : ∀ i (s : Shared) (Q : Value → Shared → Prop) (E : Value → Shared → Prop), St i s.heap → Q (.ref I) s → wpAny (model prog w) A (pyIter (.ref I)) Q E s
  there : ∀ i h, St i h → ∀ b ∈ ow, ∃ o, h.get? b = some o
  thereM : ∀ i v h, Mid i v h → ∀ b ∈ ow, ∃ o, h.get? b = some o

theorem ItemRep.mono {V V' : View} {h : Heap} (le : V.Le V') : ∀ {x : Item} {v : Value}, ItemRep V h x v → ItemRep V' h x v
  | .one p, _, r => Rep.mono le p r
  | .many _, _, ⟨T, vals, e, ht, hr⟩ => ⟨T, vals, e, ht, Reps.mono le _ hr⟩

section
variable {C : Cx} {σ : St}

/-- an iterator's own objects: held by no view and by no name of ours -/
structure Aside (C : Cx) (V : View) (ads : List Addr) (h : Heap) (b : Addr) : Prop where
  v : V b = none
  kv : C.bs.kv b = none
  L : b ≠ C.env.locals
  cells : ∀ x, C.env.cells.lookup x ≠ some b
  ads : b ∉ ads
  there : ∃ o, h.get? b = some o

def IterAt (C : Cx) (A : Around) (V : View) (ads : List Addr) (target : Expr) (it : Value) (items : List Item) (h : Heap) : Prop :=
  ∃ I ow wr St Mid, it = .ref I ∧ Walker C.prog C.w A V target I ow wr items St Mid ∧ St 0 h ∧ (∀ b ∈ ow, Aside C V ads h b)

def WIter (C : Cx) (target iter : Expr) (σ : St) (P : List Item → St → Prop) : Prop :=
  ∀ (A : Around) (E : Value → Shared → Prop) (s : Shared) (V : View) (ads : List Addr) (Q' : Value → Shared → Prop), RoomF A C.d C.fr → C.R σ V ads s →
    (∀ it s' V' ads' items σ', V.Le V' → Pre ads ads' → C.R σ' V' ads' s' → IterAt C A V' ads' target it items s'.heap → P items σ' → Q' it s') →
    wpAny (model C.prog C.w) A (eval iter C.env) (fun x s₁ => wpAny (model C.prog C.w) A (pyIter x) Q' E s₁) E s

def WItem (C : Cx) (target : Expr) (x : Item) (σ : St) (Q : St → Prop) : Prop := match x with
  | .one p => WAsg C target (.pv p) σ Q
  | .many ps => ∃ es k p', target = .Tuple es k p' ∧ (assignEach es C.env).length = ps.length ∧ (assignEach es C.env).findIdx? (·.1) = none ∧ WAsgs C es (ps.map Loc.pv) σ Q

theorem item_goes {A : Around} {E : Value → Shared → Prop} {s : Shared} {V : View} {ads : List Addr} {target : Expr} {x : Item} {v : Value} {Q : St → Prop} {Q' : Unit → Shared → Prop} (h : WItem C target x σ Q) (rm : RoomF A C.d C.fr) (R : C.R σ V ads s) (hv : ItemRep V s.heap x v) (g : Goes C UnitRep (fun _ σ' => Q σ') V ads Q') :
    wpAny (model C.prog C.w) A (assign target C.env v) Q' E s := by
  cases x with
  | one p => exact h A E s V ads Q' v rm R hv g
  | many ps =>
    obtain ⟨es, k, p', rfl, hn, hs, h⟩ := h
    obtain ⟨T, vals, rfl, ht, hr⟩ := hv
    exact assign_tuple_at rm R ht (locs_of_reps _ _ hr) (by rw [List.length_map]; exact hn) hs h g

/-- the same place in the text, with other words on what stands around -/
abbrev Cx.wb (C : Cx) (bs : Base) : Cx := { C with bs := bs }

theorem Rel.but {V : View} {ads : List Addr} {s s' : Shared} {wr : List Addr} (R : C.R σ V ads s) (e : ∃ h t, s' = { s with heap := h, toks := t }) (hw : ∀ b ∈ wr, Aside C V ads s.heap b) (kp : ∀ b o, b ∉ wr → s.heap.get? b = some o → s'.heap.get? b = some o) : C.R σ V ads s' where
  same := by
    obtain ⟨h, t, rfl⟩ := e
    obtain ⟨h', t', e'⟩ := R.same
    exact ⟨h, t, by rw [e']⟩
  sees := fun b o hb => kp b o (fun q => by rw [(hw b q).v] at hb; cases hb) (R.sees b o hb)
  glob := R.glob
  keep := fun b o hb => kp b o (fun q => by rw [(hw b q).kv] at hb; cases hb) (R.keep b o hb)
  vnew := R.vnew
  frame := by
    obtain ⟨m, ⟨o, es, ep, ho, hN⟩, hx⟩ := R.frame
    refine ⟨m, ⟨o, es, ep, kp _ _ (fun q => (hw _ q).L rfl) ho, hN⟩, fun x l ex => ?_⟩
    obtain ⟨v, q1, q2⟩ := hx x l ex
    refine ⟨v, q1, q2.imp id fun ⟨a, c, b, o', d1, d2⟩ => ⟨a, c, b, o', kp _ _ (fun q => (hw _ q).cells x b) d1, d2⟩⟩
  Lnew := R.Lnew
  hL := R.hL
  kL := R.kL
  cells := fun hc x c ex => by
    obtain ⟨⟨v, o, q1, q1'⟩, q2⟩ := R.cells hc x c ex
    exact ⟨⟨v, o, kp _ _ (fun q => (hw _ q).cells x ex) q1, q1'⟩, q2⟩
  olen := R.olen
  own := fun k xs ex => by
    obtain ⟨l, vs, n, h1, h2, h3⟩ := R.own k xs ex
    exact ⟨l, vs, n, h1, kp _ _ (fun q => (hw _ q).ads (List.mem_of_getElem? h1)) h2, h3⟩
  inj := R.inj
  onew := R.onew
  lentP := R.lentP
  aex := fun l hl => (R.aex l hl).imp fun o h => kp _ _ (fun q => (hw _ q).ads hl) h
  akv := R.akv
  cex := fun x c e => (R.cex x c e).imp fun o h => kp _ _ (fun q => (hw _ q).cells x e) h
  adL := R.adL
  adC := R.adC

def asideBase (bs : Base) (V : View) (h : Heap) (ow : List Addr) : Base := { bs with V₀ := V, kv := fun b => if b ∈ ow then h.get? b else bs.kv b }

theorem Rel.aside {V : View} {ads ow : List Addr} {s : Shared} (R : C.R σ V ads s) (hw : ∀ b ∈ ow, Aside C V ads s.heap b) : (C.wb (asideBase C.bs V s.heap ow)).R σ V ads s where
  same := R.same
  sees := R.sees
  glob := R.glob
  keep := fun b o e => by
    simp only [asideBase] at e
    split at e
    · exact e
    · exact R.keep b o e
  vnew := fun b o e => .inl ⟨o, e⟩
  frame := R.frame
  Lnew := R.Lnew
  hL := R.hL
  kL := by
    show (if C.env.locals ∈ ow then _ else _) = none
    rw [if_neg fun q => (hw _ q).L rfl]; exact R.kL
  cells := fun hc x c e => by
    obtain ⟨h1, h2, h3, h4⟩ := R.cells hc x c e
    refine ⟨h1, h2, ?_, h4⟩
    show (if c ∈ ow then _ else _) = none
    rw [if_neg fun q => (hw _ q).cells x e]; exact h3
  olen := R.olen
  own := fun k xs e => by
    obtain ⟨l, vs, n, h1, h2, h3, h4, h5⟩ := R.own k xs e
    refine ⟨l, vs, n, h1, h2, h3, h4, ?_⟩
    show (if l ∈ ow then _ else _) = none
    rw [if_neg fun q => (hw _ q).ads (List.mem_of_getElem? h1)]; exact h5
  inj := R.inj
  onew := R.onew
  lentP := R.lentP
  aex := R.aex
  akv := fun l hl => by
    show (if l ∈ ow then _ else _) = none
    rw [if_neg fun q => (hw _ q).ads hl]; exact R.akv l hl
  cex := R.cex
  adL := R.adL
  adC := R.adC

/-- and back: what was set aside still stands as it stood -/
theorem Rel.unaside {V V' : View} {ads ads' ow : List Addr} {s s' : Shared} {σ' : St} (R : C.R σ V ads s) (hw : ∀ b ∈ ow, Aside C V ads s.heap b) (R' : (C.wb (asideBase C.bs V s.heap ow)).R σ' V' ads' s') :
    C.R σ' V' ads' s' ∧ (∀ b ∈ ow, ∀ o, s.heap.get? b = some o → s'.heap.get? b = some o) ∧ (∀ b ∈ ow, Aside C V' ads' s'.heap b) := by
  have kv' : ∀ b, b ∉ ow → (asideBase C.bs V s.heap ow).kv b = C.bs.kv b := fun b hb => by simp only [asideBase]; rw [if_neg hb]
  have kvo : ∀ b, b ∈ ow → (asideBase C.bs V s.heap ow).kv b = s.heap.get? b := fun b hb => by simp only [asideBase]; rw [if_pos hb]
  have notow : ∀ b, (asideBase C.bs V s.heap ow).kv b = none → b ∉ ow := fun b e hb => by
    rw [kvo b hb] at e
    obtain ⟨o, ho⟩ := (hw b hb).there
    rw [ho] at e; cases e
  have same : ∀ b ∈ ow, ∀ o, s.heap.get? b = some o → s'.heap.get? b = some o := fun b hb o e => R'.keep b o ((kvo b hb).trans e)
  refine ⟨{
    same := R'.same
    sees := R'.sees
    glob := R'.glob
    keep := fun b o e => R'.keep b o (by
      have : b ∉ ow := fun hb => by rw [(hw b hb).kv] at e; cases e
      show (asideBase C.bs V s.heap ow).kv b = some o
      rw [kv' b this]; exact e)
    vnew := fun b o e => by
      rcases R'.vnew b o e with ⟨o', e'⟩ | ⟨h1, h2⟩
      · exact R.vnew b o' e'
      · exact .inr ⟨h1, by
          have h2' : (asideBase C.bs V s.heap ow).kv b = none := h2
          rwa [kv' b (notow b h2')] at h2'⟩
    frame := R'.frame
    Lnew := R'.Lnew
    hL := R'.hL
    kL := R.kL
    cells := fun hc x c e => by
      obtain ⟨h1, h2, h3, h4⟩ := R'.cells hc x c e
      have h3' : (asideBase C.bs V s.heap ow).kv c = none := h3
      exact ⟨h1, h2, by rwa [kv' c (notow c h3')] at h3', h4⟩
    olen := R'.olen
    own := fun k xs e => by
      obtain ⟨l, vs, n, h1, h2, h3, h4, h5⟩ := R'.own k xs e
      have h5' : (asideBase C.bs V s.heap ow).kv l = none := h5
      exact ⟨l, vs, n, h1, h2, h3, h4, by rwa [kv' l (notow l h5')] at h5'⟩
    inj := R'.inj
    onew := R'.onew
    lentP := R'.lentP
    aex := R'.aex
    akv := fun l hl => by
      have h : (asideBase C.bs V s.heap ow).kv l = none := R'.akv l hl
      rwa [kv' l (notow l h)] at h
    cex := R'.cex
    adL := R'.adL, adC := R'.adC }, same, fun b hb => ?_⟩
  obtain ⟨o, ho⟩ := (hw b hb).there
  refine ⟨?_, (hw b hb).kv, (hw b hb).L, (hw b hb).cells, fun hm => notow b (R'.akv b hm) hb, o, same b hb o ho⟩
  cases e : V' b with
  | none => rfl
  | some o' =>
    rcases R'.vnew b o' e with ⟨o'', e'⟩ | ⟨_, h2⟩
    · have e'' : V b = some o'' := e'
      rw [(hw b hb).v] at e''; cases e''
    · exact absurd hb (notow b h2)

theorem Aside.mono {V : View} {ads : List Addr} {h h' : Heap} {b : Addr} (a : Aside C V ads h b) (k : ∃ o, h'.get? b = some o) : Aside C V ads h' b := ⟨a.v, a.kv, a.L, a.cells, a.ads, k⟩

def LoopQ (Q : RF → St → Prop) (N : St → Prop) : RF → St → Prop
  | .next, σ => ∃ σ', Less σ σ' ∧ N σ'
  | .cont, σ => ∃ σ', Less σ σ' ∧ N σ'
  | .brk, σ => Q .next σ
  | .ret l, σ => Q (.ret l) σ

def LoopOf (C : Cx) (target : Expr) (body : List Stmt) (items : List Item) (σ : St) (Q : RF → St → Prop) : Prop :=
  ∃ Inv : Nat → St → Prop, Inv 0 σ ∧ (∀ (i : Nat) x σ₂, items[i]? = some x → Inv i σ₂ → ∀ bs', bs'.lent = C.bs.lent → bs'.cellsOwn = C.bs.cellsOwn → WItem (C.wb bs') target x σ₂ fun σ₃ => WB (C.wb bs') body σ₃ (LoopQ Q (Inv (i + 1)))) ∧
    ∀ σ₂, Inv items.length σ₂ → Q .next σ₂

theorem items_at {items : List Item} {i : Nat} (h : i ≤ items.length) (hn : items[i]? = none) : i = items.length := by
  have := List.getElem?_eq_none_iff.mp hn
  lia

theorem s_for {target iter : Expr} {body : List Stmt} {pos : Pos} {Q : RF → St → Prop} (h : WIter C target iter σ fun items σ₁ => LoopOf C target body items σ₁ Q)
    (hs : ∀ x, foldedSetIterable iter C.env x = pure x := by intro _; with_unfolding_all rfl) : WS C (.For target iter body [] pos) σ Q := fun A E s V ads Q' rm R g => by
  refine wpAny_For (h A E s V ads _ rm R fun it s₁ V₁ ads₁ items σ₁ le₁ pr₁ R₁ hit hl => ?_) hs
  obtain ⟨I, ow, wr, St, Mid, rfl, Wk, hst, hw⟩ := hit
  obtain ⟨Inv, h0, step, fin⟩ := hl
  have g₁ := g.later le₁ pr₁
  refine codeAny_forLoop_any (fun k s' => ∃ i σ' V' ads', V₁.Le V' ∧ Pre ads₁ ads' ∧ C.R σ' V' ads' s' ∧ St i s'.heap ∧ Inv i σ' ∧ (∀ b ∈ ow, Aside C V' ads' s'.heap b) ∧ i ≤ items.length ∧ k = items.length + 1 - i) ?_ (items.length + 1)
    ⟨0, σ₁, V₁, ads₁, View.Le.refl _, Pre.refl _, R₁, hst, h0, hw, Nat.zero_le _, rfl⟩
  rintro k s' ⟨i, σ', V', ads', le', pr', R', hst', hI, hw', hi, rfl⟩
  cases hx : items[i]? with
  | none =>
    have : i = items.length := items_at hi hx
    subst this
    refine Wk.done s' _ _ hst' fun h₂ tk kp => ?_
    have R₂ := R'.but (s' := { s' with heap := h₂, toks := tk }) ⟨h₂, tk, rfl⟩ (fun b hb => hw' b (Wk.own b hb)) kp
    exact wpAny_execs_nil (g₁ .next _ V' ads' RF.next σ' le' pr' R₂ rfl (fin σ' hI))
  | some x =>
    refine Wk.item i x s' _ _ hx hst' fun v h₂ tk hmid kp => ?_
    have R₂ := R'.but (s' := { s' with heap := h₂, toks := tk }) ⟨h₂, tk, rfl⟩ (fun b hb => hw' b (Wk.own b hb)) kp
    have hw₂ : ∀ b ∈ ow, Aside C V' ads' h₂ b := fun b hb => (hw' b hb).mono (Wk.thereM i v h₂ hmid b hb)
    refine Wk.go i x v _ _ _ hx hmid fun h₃ hst₃ hv kp₃ => ?_
    have R₃ := R₂.but (s' := { s' with heap := h₃, toks := tk }) ⟨h₃, tk, rfl⟩ (fun b hb => hw₂ b (Wk.own b hb)) kp₃
    have hw₃ : ∀ b ∈ ow, Aside C V' ads' h₃ b := fun b hb => (hw₂ b hb).mono (Wk.there _ h₃ hst₃ b hb)
    have R₄ := R₃.aside hw₃
    refine item_goes (C := C.wb (asideBase C.bs V' h₃ ow)) (step i x σ' hx hI _ rfl rfl) rm R₄ (hv.mono le') fun _ s₅ V₅ ads₅ _ σ₅ le₅ pr₅ R₅ _ h₅ => ?_
    refine h₅ A _ s₅ V₅ ads₅ _ rm R₅ fun f s₆ V₆ ads₆ rf σ₆ le₆ pr₆ R₆ fr q => ?_
    obtain ⟨R₇, same, hw₇⟩ := R₃.unaside hw₃ R₆
    have le₇ := le'.trans (le₅.trans le₆)
    have pr₇ := pr'.trans (pr₅.trans pr₆)
    have next : (∃ σ', Less σ₆ σ' ∧ Inv (i + 1) σ') → ∃ m, m < items.length + 1 - i ∧ ∃ i' σ' V' ads', V₁.Le V' ∧ Pre ads₁ ads' ∧ C.R σ' V' ads' s₆ ∧ St i' s₆.heap ∧ Inv i' σ' ∧ (∀ b ∈ ow, Aside C V' ads' s₆.heap b) ∧ i' ≤ items.length ∧ m = items.length + 1 - i' := fun ⟨σ₇, hl, hI'⟩ => by
      have hlt : i < items.length := (List.getElem?_eq_some_iff.mp hx).1
      refine ⟨items.length + 1 - (i + 1), by lia, i + 1, σ₇, V₆, ads₆, le₇, pr₇, R₇.less hl, ?_, hI', hw₇, hlt, rfl⟩
      exact Wk.frame _ _ _ hst₃ (fun b o e => R₇.sees b o (le₇ b o e)) same
    cases rf with
    | next => cases fr; exact next q
    | cont => cases fr; exact next q
    | brk => cases fr; exact g₁ .next s₆ V₆ ads₆ RF.next σ₆ le₇ pr₇ R₇ rfl q
    | ret l =>
      obtain ⟨u, rfl, hu⟩ := fr
      exact g₁ (.ret u) s₆ V₆ ads₆ (RF.ret l) σ₆ le₇ pr₇ R₇ ⟨u, rfl, hu⟩ q

/-! a while by an invariant and a measure -/
theorem s_while {test : Expr} {body : List Stmt} {pos : Pos} {Q : RF → St → Prop} (Inv : Nat → St → Prop) (n : Nat) (h0 : Inv n σ)
    (turn : ∀ n σ₁, Inv n σ₁ → WT C test σ₁ fun b σ₂ => if b then WB C body σ₂ (LoopQ Q fun σ₃ => ∃ m, m < n ∧ Inv m σ₃) else Q .next σ₂) : WS C (.While test body [] pos) σ Q := fun A E s V ads Q' rm R g => by
  refine wpAny_While (codeAny_whileLoop (fun k s' => ∃ σ' V' ads', V.Le V' ∧ Pre ads ads' ∧ C.R σ' V' ads' s' ∧ Inv k σ') ?_ n ⟨σ, V, ads, View.Le.refl _, Pre.refl _, R, h0⟩)
  rintro k s' ⟨σ', V', ads', le', pr', R', hI⟩
  refine turn k σ' hI A _ s' V' ads' _ rm R' fun b s₁ V₁ ads₁ t σ₁ le₁ pr₁ R₁ r₁ h₁ => ?_
  subst r₁
  cases b with
  | false =>
    simp only [Bool.false_eq_true, if_false] at h₁ ⊢
    exact wpAny_execs_nil (g .next s₁ V₁ ads₁ RF.next σ₁ (le'.trans le₁) (pr'.trans pr₁) R₁ rfl h₁)
  | true =>
    simp only [if_true] at h₁ ⊢
    refine h₁ A _ s₁ V₁ ads₁ _ rm R₁ fun f s₂ V₂ ads₂ rf σ₂ le₂ pr₂ R₂ fr q => ?_
    have le₃ := le'.trans (le₁.trans le₂)
    have pr₃ := pr'.trans (pr₁.trans pr₂)
    have next : (∃ σ', Less σ₂ σ' ∧ ∃ m, m < k ∧ Inv m σ') → ∃ m, m < k ∧ ∃ σ' V' ads', V.Le V' ∧ Pre ads ads' ∧ C.R σ' V' ads' s₂ ∧ Inv m σ' := fun ⟨σ₃, hl, m, hm, hI'⟩ =>
      ⟨m, hm, σ₃, V₂, ads₂, le₃, pr₃, R₂.less hl, hI'⟩
    cases rf with
    | next => cases fr; exact next q
    | cont => cases fr; exact next q
    | brk => cases fr; exact g .next s₂ V₂ ads₂ RF.next σ₂ le₃ pr₃ R₂ rfl q
    | ret l =>
      obtain ⟨u, rfl, hu⟩ := fr
      exact g (.ret u) s₂ V₂ ads₂ (RF.ret l) σ₂ le₃ pr₃ R₂ ⟨u, rfl, hu⟩ q
end

end CR
namespace CR
open PySem PySem.W PyProof.Rows

section
variable {C : Cx} {σ : St}

theorem aside_new {V : View} {ads : List Addr} {s : Shared} {h' : Heap} (R : C.R σ V ads s) {b : Addr} (hb : s.heap.objs.size ≤ b) (ht : ∃ o, h'.get? b = some o) : Aside C V ads h' b := by
  obtain ⟨f1, f2, f3, _, f5⟩ := fresh_none R hb
  refine ⟨f1, f2, f3, fun x e => ?_, f5, ht⟩
  obtain ⟨o, ho⟩ := R.cex x b e
  rw [get?_ge hb] at ho; cases ho

theorem letGo_list {M : Model} {A : Around} {E : Value → Shared → Prop} {s : Shared} {target : Expr} {I l : Addr} {i : Nat} {v : Value} {Q : Unit → Shared → Prop} (hit : s.heap.IsListIter I l i) (hQ : Q () s) : wpAny M A (letOwnedTupleGo target (.ref I) v) Q E s := by
  cases target <;> try exact wpAny_pure hQ
  all_goals (
    unfold letOwnedTupleGo
    cases v <;> try exact wpAny_pure hQ
    obtain ⟨o, ho, hc, hd⟩ := hit
    refine wpAny_bind (wpAny_load ho ?_)
    rw [hc, hd]
    exact wpAny_pure hQ)

theorem walker_list {prog : Program} {w : World} {A : Around} {V : View} {target : Expr} {I l : Addr} {vs : Array Value} {n : Nat} {xs : List PV} (hh : A.handled = none) (hV : V l = some (lst vs n)) (rs : Reps V xs vs.toList) (hI : V I = none) :
    Walker prog w A V target I [I] [I] (xs.map Item.one) (fun i h => h.IsListIter I l i ∧ Sees V h) (fun i v h => (h.IsListIter I l (i + 1) ∧ Sees V h) ∧ ∃ x, xs[i]? = some x ∧ Rep V x v) := by
  have hne : l ≠ I := fun e => by rw [e, hI] at hV; cases hV
  have W := Walks.list (prog := prog) (w := w) hh I l hne vs
  have hlen := rs.length
  simp only [Array.length_toList] at hlen
  have sees' : ∀ {h h' : Heap}, Sees V h → (∀ b o, b ∉ [I] → h.get? b = some o → h'.get? b = some o) → Sees V h' := fun hs k b o e => k b o (fun q => by
    rw [List.mem_singleton] at q
    rw [q, hI] at e; cases e) (hs b o e)
  exact {
    own := fun b hb => hb
    frame := fun i h h' hst hs k => ⟨hst.1.at fun o e => k I (by simp) o e, hs⟩
    item := fun i x s Q E hx hst hQ => by
      have hi : i < vs.size := by
        have := (List.getElem?_eq_some_iff.mp hx).1
        rw [List.length_map] at this; lia
      refine W.item i s Q E hi ⟨hst.1, hst.2.isList hV⟩ fun v h' tk hP st' k => hQ v h' tk ⟨⟨st'.1, sees' hst.2 k⟩, ?_⟩ k
      exact rs.get' (by simpa using hP)
    go := fun i x v s Q E hx hm hQ => by
      obtain ⟨hst, y, hy, hr⟩ := hm
      refine letGo_list hst.1 (hQ s.heap hst ?_ fun _ _ _ e => e)
      rw [List.getElem?_map, hy] at hx
      cases hx
      exact hr
    done := fun s Q E hst hQ => W.done s Q E (by
      rw [List.length_map, ← hlen] at hst
      exact ⟨hst.1, hst.2.isList hV⟩) fun h' tk k => hQ h' tk k
    self := fun i s Q E hst hQ => W.self i s Q E ⟨hst.1, hst.2.isList hV⟩ hQ
    there := fun i h hst b hb => by
      rw [List.mem_singleton] at hb
      subst hb
      obtain ⟨o, ho, _⟩ := hst.1
      exact ⟨o, ho⟩
    thereM := fun i v h hm b hb => by
      rw [List.mem_singleton] at hb
      subst hb
      obtain ⟨⟨⟨o, ho, _⟩, _⟩, _⟩ := hm
      exact ⟨o, ho⟩ }

/-- `for .. in xs`, a frozen list -/
theorem it_list {target iter : Expr} {P : List Item → St → Prop} (h : WE C iter σ fun r σ₁ => ∃ xs, r = .pv (.list xs) ∧ P (xs.map Item.one) σ₁) : WIter C target iter σ P := fun A E s V ads Q' rm R g =>
  h A E s V ads _ rm R fun v s₁ V₁ ads₁ r σ₁ le₁ pr₁ R₁ r₁ h₁ => by
    obtain ⟨xs, rfl, p⟩ := h₁
    simp only [LocRep, Rep] at r₁
    obtain ⟨l, vs, n, rfl, hl, rs⟩ := r₁
    have hL : s₁.heap.IsList l vs := R₁.sees.isList hl
    refine wpAny_pyIter_list hL (g _ _ V₁ ads₁ _ σ₁ le₁ pr₁ (R₁.keeps ⟨_, _, rfl⟩ (push_keeps _)) ⟨_, _, _, _, _, rfl, walker_list rm.handled hl rs (fresh_none R₁ (Nat.le_refl _)).1, ⟨⟨_, Heap.get?_push_size _ rfl, rfl, rfl⟩, R₁.sees.keeps (push_keeps _)⟩, fun b hb => ?_⟩ p)
    rw [List.mem_singleton] at hb
    subst hb
    exact aside_new R₁ (Nat.le_refl _) ⟨_, Heap.get?_push_size _ rfl⟩

theorem walker_range {prog : Program} {w : World} {A : Around} {V : View} {I : Addr} {a c : Int} {n : Nat} {x : Str} {p : Pos} (hh : A.handled = none) (hI : V I = none) :
    Walker prog w A V (.Name x p) I [I] [I] ((List.range n).map fun i => Item.one (.int (a + (i : Nat) * c))) (fun i h => IsRangeIter h I (a + (i : Nat) * c) ((n : Int) - (i : Nat)) c) (fun i v h => IsRangeIter h I (a + ((i + 1 : Nat) : Int) * c) ((n : Int) - ((i + 1 : Nat) : Int)) c ∧ ∃ t, v = .int (a + i * c) t) := by
  have W := Walks.range (prog := prog) (w := w) hh I a c n
  exact {
    own := fun b hb => hb
    frame := fun i h h' hst hs k => k I (by simp) _ hst
    item := fun i x s Q E hx hst hQ => by
      have hi : i < n := by
        have := (List.getElem?_eq_some_iff.mp hx).1
        simpa using this
      exact W.item i s Q E hi hst fun v h' tk hP st' k => hQ v h' tk ⟨st', hP⟩ k
    go := fun i x v s Q E hx hm hQ => by
      obtain ⟨hst, t, rfl⟩ := hm
      refine wpAny_pure (hQ s.heap hst ?_ fun _ _ _ e => e)
      have hi : i < n := by
        have := (List.getElem?_eq_some_iff.mp hx).1
        simpa using this
      rw [List.getElem?_map, List.getElem?_range hi] at hx
      cases hx
      simp only [ItemRep, Rep]
      exact ⟨t, rfl⟩
    done := fun s Q E hst hQ => W.done s Q E (by
      rw [List.length_map, List.length_range] at hst
      exact hst) fun h' tk k => hQ h' tk k
    self := fun i s Q E hst hQ => W.self i s Q E hst hQ
    there := fun i h hst b hb => by
      rw [List.mem_singleton] at hb
      subst hb
      exact ⟨_, hst⟩
    thereM := fun i v h hm b hb => by
      rw [List.mem_singleton] at hb
      subst hb
      exact ⟨_, hm.1⟩ }

def RangeArgs : List Loc → Int → Int → Int → Prop
  | [.pv (.int b')], a, b, c => a = 0 ∧ b = b' ∧ c = 1
  | [.pv (.int a'), .pv (.int b')], a, b, c => a = a' ∧ b = b' ∧ c = 1
  | [.pv (.int a'), .pv (.int b'), .pv (.int c')], a, b, c => a = a' ∧ b = b' ∧ c = c'
  | _, _, _, _ => False

theorem small_of {a b c : Int} {n : Nat} (ha : -1000000 ≤ a ∧ a ≤ 1000000) (hb : -1000000 ≤ b ∧ b ≤ 1000000) (hc : -1000000 ≤ c ∧ c ≤ 1000000) (hn : Builtin.Range.rangeSize a b c = n) (hz : n ≤ 1000000) : Builtin.Range.small a b c = true := by
  unfold Builtin.Range.small
  rw [hn]
  have h1 : Builtin.Range.rangeFitsLong a = true := by simp [Builtin.Range.rangeFitsLong]; lia
  have h2 : Builtin.Range.rangeFitsLong b = true := by simp [Builtin.Range.rangeFitsLong]; lia
  have h3 : Builtin.Range.rangeFitsLong c = true := by simp [Builtin.Range.rangeFitsLong]; lia
  have h4 : Builtin.Range.rangeFitsLong (n : Int) = true := by simp [Builtin.Range.rangeFitsLong]; lia
  have h5 : Builtin.Range.rangeFitsLong (b + (c - 1)) = true := by simp [Builtin.Range.rangeFitsLong]; lia
  have h6 : Builtin.Range.rangeFitsLong (b + (c + 1)) = true := by simp [Builtin.Range.rangeFitsLong]; lia
  rw [h1, h2, h3, h4, h5, h6]
  simp

/-- `for x in range(..)` -/
theorem it_range {x f : Str} {p fp pos : Pos} {e : Expr} {args : List Expr} {P : List Item → St → Prop}
    (h : WE C (.Name f fp) σ fun r σ₁ => r = .pv (.ty "range") ∧ WL C (e :: args) pos σ₁ fun rs σ₂ => ∃ a b c n, RangeArgs rs a b c ∧ c ≠ 0 ∧ (-1000000 ≤ a ∧ a ≤ 1000000) ∧ (-1000000 ≤ b ∧ b ≤ 1000000) ∧ (-1000000 ≤ c ∧ c ≤ 1000000) ∧ Builtin.Range.rangeSize a b c = (n : Nat) ∧ n ≤ 1000000 ∧ P ((List.range n).map fun i => Item.one (.int (a + (i : Nat) * c))) σ₂)
    (he : starEach (e :: args) C.env = (false, eval e C.env) :: starEach args C.env := by with_unfolding_all rfl) (hplain : (backTo pos (starEach args C.env)).any (·.1) = false := by with_unfolding_all rfl) : WIter C (.Name x p) (.Call (.Name f fp) (e :: args) [] pos) σ P := fun A E s V ads Q' rm R g => by
  refine Call_Name rfl (h A E s V ads _ rm R fun v s₁ V₁ ads₁ r σ₁ le₁ pr₁ R₁ r₁ h₁ => ?_)
  obtain ⟨rfl, h₁⟩ := h₁
  simp only [LocRep, Rep] at r₁
  subst r₁
  have hpl : (backTo pos (starEach (e :: args) C.env)).any (·.1) = false := by
    rw [he]
    show (false || (backTo pos (starEach args C.env)).any (·.1)) = false
    rw [hplain]; rfl
  have h₁' := fun Q'' => h₁ A E s₁ V₁ ads₁ Q'' rm R₁
  rw [he] at h₁' hpl ⊢
  refine PyProof.Rows.callWith_type hpl (Calls.evalArgs_plain (h₁' _ fun vs s₂ V₂ ads₂ rs σ₂ le₂ pr₂ R₂ r₂ h₂ => ?_))
  obtain ⟨a, b, c, n, hra, hc0, ha, hb, hc, hn, hz, hp⟩ := h₂
  have small := small_of ha hb hc hn hz
  have fin : ∀ (s₃ : Shared) (t u v : Tok), C.R σ₂ V₂ ads₂ s₃ → s₃.heap.objs.size = s₂.heap.objs.size → wpAny (model C.prog C.w) A (pyIter (.ref s₂.heap.objs.size)) Q' E { s₃ with heap := s₃.heap.push { cls := .type "range", data := .fields #[.int a t, .int b u, .int c v] } } := by
    intro s₃ t u v R₃ hsz
    rw [← hsz]
    refine wpAny_pyIter_range (IsRange.new s₃.heap a b c t u v) small ?_
    have R₄ := R₃.keeps (s' := { s₃ with heap := (s₃.heap.push { cls := .type "range", data := .fields #[.int a t, .int b u, .int c v] }).push { cls := .type "range_iterator", data := .fields #[rawInt a, rawInt (Builtin.Range.rangeSize a b c), rawInt c] } }) ⟨_, _, rfl⟩ (fun b o e => Heap.get?_push_of_some _ (Heap.get?_push_of_some _ e))
    have hge : s₃.heap.objs.size ≤ (s₃.heap.push { cls := .type "range", data := .fields #[.int a t, .int b u, .int c v] }).objs.size := by rw [Heap.size_push]; exact Nat.le_succ _
    refine g _ _ V₂ ads₂ _ σ₂ (le₁.trans le₂) (pr₁.trans pr₂) R₄ ⟨_, _, _, _, _, rfl, walker_range (a := a) (c := c) (n := n) rm.handled (fresh_none R₃ hge).1, ?_, fun b hb => ?_⟩ hp
    · show IsRangeIter _ _ (a + ((0 : Nat) : Int) * c) ((n : Int) - ((0 : Nat) : Int)) c
      rw [show a + ((0 : Nat) : Int) * c = a by simp, show (n : Int) - ((0 : Nat) : Int) = Builtin.Range.rangeSize a b c by rw [hn]; simp]
      exact Heap.get?_push_size _ rfl
    · rw [List.mem_singleton] at hb
      subst hb
      exact aside_new R₃ hge ⟨_, Heap.get?_push_size _ rfl⟩
  rw [List.nil_append]
  match rs, hra, r₂ with
  | [.pv (.int b')], hra, r₂ =>
    obtain ⟨rfl, rfl, rfl⟩ := hra
    obtain ⟨v, vs', rfl, hv, rfl⟩ := r₂
    simp only [LocRep, Rep] at hv
    obtain ⟨t, rfl⟩ := hv
    exact call_range_1 (fin { s₂ with toks := s₂.toks + 1 + 1 } _ _ _ (R₂.tok _) rfl)
  | [.pv (.int a'), .pv (.int b')], hra, r₂ =>
    obtain ⟨rfl, rfl, rfl⟩ := hra
    obtain ⟨v, vs', rfl, hv, v', vs'', rfl, hv', rfl⟩ := r₂
    simp only [LocRep, Rep] at hv hv'
    obtain ⟨t, rfl⟩ := hv
    obtain ⟨u, rfl⟩ := hv'
    exact call_range_2 (fin { s₂ with toks := s₂.toks + 1 } _ _ _ (R₂.tok _) rfl)
  | [.pv (.int a'), .pv (.int b'), .pv (.int c')], hra, r₂ =>
    obtain ⟨rfl, rfl, rfl⟩ := hra
    obtain ⟨v, vs', rfl, hv, v', vs'', rfl, hv', v'', vs''', rfl, hv'', rfl⟩ := r₂
    simp only [LocRep, Rep] at hv hv' hv''
    obtain ⟨t, rfl⟩ := hv
    obtain ⟨u, rfl⟩ := hv'
    obtain ⟨z, rfl⟩ := hv''
    exact call_range_3 hc0 (fin s₂ _ _ _ R₂ rfl) (.inl (PyProof.noPylong_small (by lia)))
/-! enumerate, zip -/
theorem walker_enum {prog : Program} {w : World} {A : Around} {V : View} {es : List Expr} {k : Nat} {p : Pos} {I it l : Addr} {vs : Array Value} {n : Nat} {xs : List PV} (hh : A.handled = none) (hV : V l = some (lst vs n)) (rs : Reps V xs vs.toList) (hI : V I = none) (hit : V it = none) (hne : I ≠ it) :
    Walker prog w A V (.Tuple es k p) I [I, it] [I, it] (xs.mapIdx fun i x => Item.many [.int i, x]) (fun i h => ((∃ old, IsEnum h I it i old) ∧ h.IsListIter it l i) ∧ Sees V h)
      (fun i v h => ∃ T vals, v = .ref T ∧ h.IsTuple T vals ∧ (∃ t x, vs[i]? = some x ∧ vals = #[.int i t, x]) ∧ ((∃ x, IsEnumOut h I it ((i : Int) + 1) x T) ∧ h.IsListIter it l (i + 1) ∧ h.IsList l vs ∧ T ≠ I ∧ T ≠ it) ∧ Sees V h) := by
  have hl1 : l ≠ I := fun e => by rw [e, hI] at hV; cases hV
  have hl2 : l ≠ it := fun e => by rw [e, hit] at hV; cases hV
  have W := WalksT.enumerate (prog := prog) (w := w) hh I it l hne hl1 hl2 vs
  have hlen := rs.length
  simp only [Array.length_toList] at hlen
  have sees' : ∀ {h h' : Heap}, Sees V h → (∀ b o, b ∉ [I, it] → h.get? b = some o → h'.get? b = some o) → Sees V h' := fun hs k b o e => k b o (fun q => by
    rcases List.mem_cons.mp q with q | q
    · rw [q, hI] at e; cases e
    · rw [List.mem_singleton] at q
      rw [q, hit] at e; cases e) (hs b o e)
  exact {
    own := fun b hb => hb
    frame := fun i h h' hst hs k => ⟨⟨hst.1.1.imp fun old e => k I (by simp) _ e, hst.1.2.at fun o e => k it (by simp) o e⟩, hs⟩
    item := fun i x s Q E hx hst hQ => by
      have hi : i < vs.size := by
        have := (List.getElem?_eq_some_iff.mp hx).1
        rw [List.length_mapIdx] at this; lia
      exact W.item i s Q E hi ⟨hst.1.1, hst.1.2, hst.2.isList hV⟩ fun T vals h' tk hP _ hT hm k => hQ _ h' tk ⟨T, vals, rfl, hT, hP, hm, sees' hst.2 k⟩ k
    go := fun i x v s Q E hx hm hQ => by
      obtain ⟨T, vals, rfl, hT, ⟨t, y, hy, rfl⟩, hm, hs⟩ := hm
      refine W.go es k p i T s Q E hm fun h' hst kk => hQ h' ⟨⟨hst.1, hst.2.1⟩, sees' hs kk⟩ ?_ kk
      obtain ⟨z, hz, hr⟩ := rs.get' (by simpa using hy)
      rw [List.getElem?_mapIdx, hz] at hx
      cases hx
      refine ⟨T, #[.int i t, y], rfl, hT.at fun o e => kk T o (W.apart i T _ hm) e, .cons ?_ (.cons hr .nil)⟩
      simp only [Rep]
      exact ⟨t, rfl⟩
    done := fun s Q E hst hQ => W.done s Q E (by
      rw [List.length_mapIdx, ← hlen] at hst
      exact ⟨hst.1.1, hst.1.2, hst.2.isList hV⟩) fun h' tk k => hQ h' tk k
    self := fun i s Q E hst hQ => W.self i s Q E ⟨hst.1.1, hst.1.2, hst.2.isList hV⟩ hQ
    there := fun i h hst b hb => by
      rcases List.mem_cons.mp hb with hb | hb
      · subst hb; obtain ⟨old, e⟩ := hst.1.1; exact ⟨_, e⟩
      · rw [List.mem_singleton] at hb; subst hb; obtain ⟨o, e, _⟩ := hst.1.2; exact ⟨_, e⟩
    thereM := fun i v h hm b hb => by
      obtain ⟨T, vals, _, _, _, ⟨⟨x, e1⟩, ⟨o, e2, _⟩, _⟩, _⟩ := hm
      rcases List.mem_cons.mp hb with hb | hb
      · subst hb; exact ⟨_, e1⟩
      · rw [List.mem_singleton] at hb; subst hb; exact ⟨_, e2⟩ }

theorem it_enum {es : List Expr} {k : Nat} {p : Pos} {f : Str} {fp pos : Pos} {e : Expr} {P : List Item → St → Prop}
    (h : WE C (.Name f fp) σ fun r σ₁ => r = .pv (.ty "enumerate") ∧ WE C e σ₁ fun r σ₂ => ∃ xs, r = .pv (.list xs) ∧ P (xs.mapIdx fun i x => Item.many [.int i, x]) σ₂)
    (he : backTo pos (starEach [e] C.env) = [(false, eval e C.env)] := by with_unfolding_all rfl) : WIter C (.Tuple es k p) (.Call (.Name f fp) [e] [] pos) σ P := fun A E s V ads Q' rm R g => by
  refine Call_Name rfl (h A E s V ads _ rm R fun v s₁ V₁ ads₁ r σ₁ le₁ pr₁ R₁ r₁ h₁ => ?_)
  obtain ⟨rfl, h₁⟩ := h₁
  simp only [LocRep, Rep] at r₁
  subst r₁
  rw [he]
  refine PyProof.Rows.callWith_type rfl (Calls.evalArgs_plain (Calls.spliced_cons (h₁ A E s₁ V₁ ads₁ _ rm R₁ fun v s₂ V₂ ads₂ r σ₂ le₂ pr₂ R₂ r₂ h₂ => Calls.spliced_nil ?_)))
  obtain ⟨xs, rfl, hp⟩ := h₂
  simp only [LocRep, Rep] at r₂
  obtain ⟨l, vs, n, rfl, hl, rs⟩ := r₂
  refine call_enumerate_list (R₂.sees.isList hl) fun h' e1 e2 e3 kp => ?_
  refine wpAny_pyIter_enum e1 ?_
  have R₃ := R₂.keeps (s' := { s₂ with heap := h' }) ⟨h', s₂.toks, rfl⟩ kp
  have a1 := aside_new R₂ (Nat.le_succ _) ⟨_, e1⟩
  have a2 := aside_new R₂ (Nat.le_refl _) (by obtain ⟨o, e, _⟩ := e2; exact ⟨o, e⟩)
  exact g _ _ V₂ ads₂ _ σ₂ (le₁.trans le₂) (pr₁.trans pr₂) R₃ ⟨_, _, _, _, _, rfl, walker_enum rm.handled hl rs a1.v a2.v (Nat.succ_ne_self _), ⟨⟨⟨_, e1⟩, e2⟩, R₃.sees⟩, fun b hb => by
    rcases List.mem_cons.mp hb with hb | hb
    · subst hb; exact a1
    · rw [List.mem_singleton] at hb; subst hb; exact a2⟩ hp

def zipItems : List PV → List PV → List Item
  | x :: xs, y :: ys => Item.many [x, y] :: zipItems xs ys
  | _, _ => []
theorem zipItems_len : ∀ xs ys : List PV, (zipItems xs ys).length = min xs.length ys.length
  | [], _ => by simp [zipItems]
  | _ :: _, [] => by simp [zipItems]
  | x :: xs, y :: ys => by simp only [zipItems, List.length_cons, zipItems_len xs ys]; lia
theorem zipItems_get : ∀ (xs ys : List PV) (i : Nat) (it : Item), (zipItems xs ys)[i]? = some it → ∃ x y, xs[i]? = some x ∧ ys[i]? = some y ∧ it = .many [x, y]
  | [], _, i, it, h => by simp [zipItems] at h
  | _ :: _, [], i, it, h => by simp [zipItems] at h
  | x :: xs, y :: ys, 0, it, h => by simp only [zipItems, List.getElem?_cons_zero, Option.some.injEq] at h; exact ⟨x, y, rfl, rfl, h.symm⟩
  | x :: xs, y :: ys, i + 1, it, h => by
    simp only [zipItems, List.getElem?_cons_succ] at h ⊢
    exact zipItems_get xs ys i it h

theorem walker_zip {prog : Program} {w : World} {A : Around} {V : View} {es : List Expr} {k : Nat} {p : Pos} {z TI TO i1 i2 l1 l2 : Addr} {vs us : Array Value} {n m : Nat} {xs ys : List PV} (hh : A.handled = none) (D : ZipApart z TI TO i1 i2 l1 l2) (hV : V l1 = some (lst vs n)) (hU : V l2 = some (lst us m)) (rs : Reps V xs vs.toList) (ru : Reps V ys us.toList)
    (hn : ∀ b ∈ [z, TI, TO, i1, i2], V b = none) :
    Walker prog w A V (.Tuple es k p) z [z, TI, TO, i1, i2] [z, TO, i1, i2] (zipItems xs ys)
      (fun i h => (IsZip h z TI TO .none ∧ IsPair h TI (.ref i1) (.ref i2) ∧ (∃ a b, IsPair h TO a b) ∧ h.IsListIter i1 l1 i ∧ h.IsListIter i2 l2 i) ∧ Sees V h)
      (fun i v h => ∃ T vals, v = .ref T ∧ h.IsTuple T vals ∧ (∃ x y, vs[i]? = some x ∧ us[i]? = some y ∧ vals = #[x, y]) ∧ (IsZip h z TI TO (rawInt T) ∧ IsPair h TI (.ref i1) (.ref i2) ∧ (∃ a b, IsPair h TO a b) ∧ h.IsListIter i1 l1 (i + 1) ∧ h.IsListIter i2 l2 (i + 1) ∧ h.IsList l1 vs ∧ h.IsList l2 us ∧
        T ≠ z ∧ T ≠ TO ∧ T ≠ i1 ∧ T ≠ i2) ∧ Sees V h) := by
  have W := WalksT.zip2 (prog := prog) (w := w) hh z TI TO i1 i2 l1 l2 D vs us
  have hlen := rs.length
  have hlen' := ru.length
  simp only [Array.length_toList] at hlen hlen'
  have sees' : ∀ {h h' : Heap}, Sees V h → (∀ b o, b ∉ [z, TO, i1, i2] → h.get? b = some o → h'.get? b = some o) → Sees V h' := fun hs k b o e => k b o (fun q => by
    have : b ∈ [z, TI, TO, i1, i2] := by
      simp only [List.mem_cons, List.not_mem_nil, or_false] at q ⊢
      rcases q with q | q | q | q <;> simp [q]
    rw [hn b this] at e; cases e) (hs b o e)
  exact {
    own := fun b q => by
      simp only [List.mem_cons, List.not_mem_nil, or_false] at q ⊢
      rcases q with q | q | q | q <;> simp [q]
    frame := fun i h h' hst hs k => by
      obtain ⟨⟨e1, e2, ⟨a, b, e3⟩, e4, e5⟩, _⟩ := hst
      exact ⟨⟨k z (by simp) _ e1, k TI (by simp) _ e2, ⟨a, b, k TO (by simp) _ e3⟩, e4.at fun o e => k i1 (by simp) o e, e5.at fun o e => k i2 (by simp) o e⟩, hs⟩
    item := fun i x s Q E hx hst hQ => by
      have hi : i < min vs.size us.size := by
        have := (List.getElem?_eq_some_iff.mp hx).1
        rw [zipItems_len] at this; lia
      obtain ⟨⟨e1, e2, e3, e4, e5⟩, hs⟩ := hst
      exact W.item i s Q E hi ⟨e1, e2, e3, e4, e5, hs.isList hV, hs.isList hU⟩ fun T vals h' tk hP _ hT hm k => hQ _ h' tk ⟨T, vals, rfl, hT, hP, hm, sees' hs k⟩ k
    go := fun i x v s Q E hx hm hQ => by
      obtain ⟨T, vals, rfl, hT, ⟨a, b, ha, hb, rfl⟩, hm, hs⟩ := hm
      refine W.go es k p i T s Q E hm fun h' hst kk => hQ h' ⟨⟨hst.1, hst.2.1, hst.2.2.1, hst.2.2.2.1, hst.2.2.2.2.1⟩, sees' hs kk⟩ ?_ kk
      obtain ⟨x', y', hx', hy', rfl⟩ := zipItems_get _ _ _ _ hx
      obtain ⟨z1, hz1, hr1⟩ := rs.get hx'
      obtain ⟨z2, hz2, hr2⟩ := ru.get hy'
      have q1 : z1 = a := by rw [Array.getElem?_toList, ha] at hz1; exact (Option.some.inj hz1).symm
      have q2 : z2 = b := by rw [Array.getElem?_toList, hb] at hz2; exact (Option.some.inj hz2).symm
      subst q1 q2
      exact ⟨T, #[z1, z2], rfl, hT.at fun o e => kk T o (W.apart i T _ hm) e, .cons hr1 (.cons hr2 .nil)⟩
    done := fun s Q E hst hQ => W.done s Q E (by
      rw [zipItems_len, ← hlen, ← hlen'] at hst
      obtain ⟨⟨e1, e2, e3, e4, e5⟩, hs⟩ := hst
      exact ⟨e1, e2, e3, e4, e5, hs.isList hV, hs.isList hU⟩) fun h' tk k => hQ h' tk k
    self := fun i s Q E hst hQ => by
      obtain ⟨⟨e1, e2, e3, e4, e5⟩, hs⟩ := hst
      exact W.self i s Q E ⟨e1, e2, e3, e4, e5, hs.isList hV, hs.isList hU⟩ hQ
    there := fun i h hst b hb => by
      obtain ⟨⟨e1, e2, ⟨a, c, e3⟩, ⟨o4, e4, _⟩, ⟨o5, e5, _⟩⟩, _⟩ := hst
      simp only [List.mem_cons, List.not_mem_nil, or_false] at hb
      rcases hb with rfl | rfl | rfl | rfl | rfl
      · exact ⟨_, e1⟩
      · exact ⟨_, e2⟩
      · exact ⟨_, e3⟩
      · exact ⟨_, e4⟩
      · exact ⟨_, e5⟩
    thereM := fun i v h hm b hb => by
      obtain ⟨T, vals, _, _, _, ⟨e1, e2, ⟨a, c, e3⟩, ⟨o4, e4, _⟩, ⟨o5, e5, _⟩, _⟩, _⟩ := hm
      simp only [List.mem_cons, List.not_mem_nil, or_false] at hb
      rcases hb with rfl | rfl | rfl | rfl | rfl
      · exact ⟨_, e1⟩
      · exact ⟨_, e2⟩
      · exact ⟨_, e3⟩
      · exact ⟨_, e4⟩
      · exact ⟨_, e5⟩ }

theorem it_zip {es : List Expr} {k : Nat} {p : Pos} {f : Str} {fp pos : Pos} {e e' : Expr} {P : List Item → St → Prop}
    (h : WE C (.Name f fp) σ fun r σ₁ => r = .pv (.ty "zip") ∧ WE C e σ₁ fun r σ₂ => ∃ xs, r = .pv (.list xs) ∧ WE C e' σ₂ fun r' σ₃ => ∃ ys, r' = .pv (.list ys) ∧ P (zipItems xs ys) σ₃)
    (he : backTo pos (starEach [e, e'] C.env) = [(false, eval e C.env), (false, eval e' C.env)] := by with_unfolding_all rfl) : WIter C (.Tuple es k p) (.Call (.Name f fp) [e, e'] [] pos) σ P := fun A E s V ads Q' rm R g => by
  refine Call_Name rfl (h A E s V ads _ rm R fun v s₁ V₁ ads₁ r σ₁ le₁ pr₁ R₁ r₁ h₁ => ?_)
  obtain ⟨rfl, h₁⟩ := h₁
  simp only [LocRep, Rep] at r₁
  subst r₁
  rw [he]
  refine PyProof.Rows.callWith_type rfl (Calls.evalArgs_plain (Calls.spliced_cons (h₁ A E s₁ V₁ ads₁ _ rm R₁ fun v s₂ V₂ ads₂ r σ₂ le₂ pr₂ R₂ r₂ h₂ => ?_)))
  obtain ⟨xs, rfl, h₂⟩ := h₂
  refine Calls.spliced_cons (h₂ A E s₂ V₂ ads₂ _ rm R₂ fun v' s₃ V₃ ads₃ r' σ₃ le₃ pr₃ R₃ r₃ h₃ => Calls.spliced_nil ?_)
  obtain ⟨ys, rfl, hp⟩ := h₃
  replace r₂ := r₂.mono le₃ pr₃
  simp only [LocRep, Rep] at r₂ r₃
  obtain ⟨l, vs, n, rfl, hl, rs⟩ := r₂
  obtain ⟨l', us, m, rfl, hl', ru⟩ := r₃
  have hlt : l < s₃.heap.objs.size := Heap.lt_size (R₃.sees _ _ hl)
  have hlt' : l' < s₃.heap.objs.size := Heap.lt_size (R₃.sees _ _ hl')
  refine call_zip_2 (R₃.sees.isList hl) (R₃.sees.isList hl') fun h' e1 e2 e3 e4 e5 e6 kp => ?_
  refine wpAny_pyIter_zip e1 ?_
  have R₄ := R₃.keeps (s' := { s₃ with heap := h' }) ⟨h', s₃.toks, rfl⟩ kp
  have D : ZipApart (s₃.heap.objs.size + 4) (s₃.heap.objs.size + 2) (s₃.heap.objs.size + 3) s₃.heap.objs.size (s₃.heap.objs.size + 1) l l' := by
    constructor <;> (try simp only [ne_eq]) <;> (unfold Addr at *) <;> lia
  have hw : ∀ b ∈ [s₃.heap.objs.size + 4, s₃.heap.objs.size + 2, s₃.heap.objs.size + 3, s₃.heap.objs.size, s₃.heap.objs.size + 1], Aside C V₃ ads₃ h' b := fun b hb => by
    obtain ⟨o4, e4', _⟩ := e4
    obtain ⟨o5, e5', _⟩ := e5
    simp only [List.mem_cons, List.not_mem_nil, or_false] at hb
    rcases hb with rfl | rfl | rfl | rfl | rfl
    · exact aside_new R₃ (Nat.le_add_right _ _) ⟨_, e1⟩
    · exact aside_new R₃ (Nat.le_add_right _ _) ⟨_, e2⟩
    · exact aside_new R₃ (Nat.le_add_right _ _) ⟨_, e3⟩
    · exact aside_new R₃ (Nat.le_refl _) ⟨_, e4'⟩
    · exact aside_new R₃ (Nat.le_add_right _ _) ⟨_, e5'⟩
  exact g _ _ V₃ ads₃ _ σ₃ (le₁.trans (le₂.trans le₃)) (pr₁.trans (pr₂.trans pr₃)) R₄ ⟨_, _, _, _, _, rfl, walker_zip rm.handled D hl hl' rs ru fun b hb => (hw b hb).v, ⟨⟨e1, e2, ⟨_, _, e3⟩, e4, e5⟩, R₄.sees⟩, hw⟩ hp

end

end CR
namespace CR
open PySem PySem.W PyProof.Rows

section
variable {prog : Program} {w : World} {A : Around} {E : Value → Shared → Prop} {R : Result → Shared → Prop} {s : Shared}

theorem compLoop_any {elt target iter : Expr} {ifs : List Expr} {scope : Scope} {pos : Pos} {it acc : Value} {env : Env} (I : Nat → Shared → Prop)
    (turn : ∀ n s, I n s → wpAny (model prog w) A (pyNext it) (fun r s₁ => match r with
      | none => R (.ok .next) s₁
      | some v => wpAny (model prog w) A (letOwnedTupleGo target it v) (fun _ s₁' => wpAny (model prog w) A (assign target env v) (fun _ s₂ =>
          wpAny (model prog w) A (forIn ifs true fun c r => if r = true then do let ok ← isTrue c env (eval c env); pure (ForInStep.yield ok) else pure (ForInStep.yield r)) (fun ok s₃ =>
            if ok = true then wpAny (model prog w) A (eval elt env) (fun x s₄ =>
              wpAny (model prog w) A (call (.builtin "list.append") [acc, x]) (fun _ s₅ => ∃ m, m < n ∧ I m s₅) (notedBy (model prog w) A env fun e s' => R (.error e) s') s₄) (notedBy (model prog w) A env fun e s' => R (.error e) s') s₃
            else ∃ m, m < n ∧ I m s₃) (notedBy (model prog w) A env fun e s' => R (.error e) s') s₂) (notedBy (model prog w) A env fun e s' => R (.error e) s') s₁') (notedBy (model prog w) A env fun e s' => R (.error e) s') s₁) (notedBy (model prog w) A env fun e s' => R (.error e) s') s)
    (n : Nat) (h : I n s) : codeAny (model prog w) A (.compLoop (.ListComp elt [⟨target, iter, ifs, 0⟩] scope pos) 0 it acc env) R s := by
  refine codeAny_loop rfl I (fun n s hI => ?_) n h
  show wpAny _ A ((compTurn (.ListComp elt [⟨target, iter, ifs, 0⟩] scope pos) 0 it acc env).onRaise (fun x => do noteFrame x env; theTreesLotGoes x)) _ _ s
  refine wpAny_noted ?_
  rw [compTurn_list]
  refine wpAny_bind (wpAny_standAt (wpAny_bind (wpAny_mono (turn n s hI) (fun r s₁ h₁ => ?_) fun _ _ h' => h')))
  cases r with
  | none => exact wpAny_pure h₁
  | some v =>
    refine wpAny_bind (wpAny_mono h₁ (fun _ s₁' h₁' => ?_) fun _ _ h' => h')
    refine wpAny_bind (wpAny_mono h₁' (fun _ s₂ h₂ => wpAny_bind (wpAny_mono h₂ (fun ok s₃ h₃ => ?_) fun _ _ h' => h')) fun _ _ h' => h')
    cases ok with
    | false => exact wpAny_pure ⟨rfl, h₃⟩
    | true =>
      exact wpAny_bind (wpAny_bind (wpAny_mono h₃ (fun x s₄ h₄ => wpAny_bind (wpAny_mono h₄ (fun _ s₅ h₅ => wpAny_pure (wpAny_pure ⟨rfl, h₅⟩)) fun _ _ h' => h')) fun _ _ h' => h'))

theorem append_lst {l : Addr} {items : Array Value} {n : Nat} {x : Value} {Q : Value → Shared → Prop} (hl : s.heap.get? l = some (lst items n)) (hsz : items.size ≤ sizeLine)
    (hQ : Q .none { s with heap := s.heap.update l (Obj.mapSeq fun xs => xs.push x) }) : wpAny (model prog w) A (call (.builtin "list.append") [.ref l, x]) Q E s :=
  call_meets PySem.F.slot_list_append ⟨_, hl, rfl⟩ PySem.F.entry_list_append (PySem.F.args_list_append_2 _ _) (list_append l items n x hsz) ⟨hl, hQ⟩
end

section
variable {C : Cx} {σ : St}

/-- the tests of a comprehension's one clause -/
abbrev WTests (C : Cx) (ifs : List Expr) (σ : St) (Q : Bool → St → Prop) : Prop := W C BoolRep (forIn ifs true fun c r => if r = true then do let ok ← isTrue c C.env (eval c C.env); pure (ForInStep.yield ok) else pure (ForInStep.yield r)) σ Q
theorem tests_nil {Q : Bool → St → Prop} (q : Q true σ) : WTests C [] σ Q := fun A E s V ads Q' rm R g => wpAny_tests_nil (g.at (a := true) R rfl q)
theorem tests_one {c : Expr} {Q : Bool → St → Prop} (h : WT C c σ Q) : WTests C [c] σ Q := fun A E s V ads Q' rm R g => wpAny_tests_one (h A E s V ads Q' rm R g)

abbrev Cx.inner (C : Cx) (scope : Scope) (cl : List (Str × Addr)) (C0 : Addr) (bs : Base) : Cx := { C with bs := bs, env := compEnvC scope cl C0 C.env }

def innerBase (s : Shared) (V : View) (ads ow : List Addr) (h : Heap) (D C0 : Addr) : Base :=
  { s₀ := s, V₀ := V, kv := fun b => if b ∈ ads ∨ b ∈ ow ∨ b = D ∨ b = C0 then none else h.get? b, lent := ads, cellsOwn := false }

/-- names of the outer block that the inner one reads -/
def Reads (C : Cx) (scope : Scope) (cl : List (Str × Addr)) (σ : St) (ρ₁ : List (Str × Loc)) : Prop :=
  ∀ x l, ρ₁.lookup x = some l → σ.ρ.lookup x = some l ∧ (relabel scope C.env).names.lookup x = some .cell ∧ (C.env.kindOf x = some .cell ∨ C.env.kindOf x = some .free) ∧ cl.lookup x = C.env.cells.lookup x

theorem inner_start {V : View} {ads ow : List Addr} {s₂ : Shared} {h₁ : Heap} {tk : Nat} {D C0 : Addr} {scope : Scope} {cl : List (Str × Addr)} {ρ₁ : List (Str × Loc)} {m₀ : Str → Option Value} (R : C.R σ V ads s₂) (hρ : Reads C scope cl σ ρ₁) (hcl : ∀ x c, cl.lookup x = some c → C.env.cells.lookup x = some c)
    (hD : D = s₂.heap.objs.size) (hC : C0 = s₂.heap.objs.size + 1) (old : ∀ b o, s₂.heap.get? b = some o → h₁.get? b = some o) (hN : h₁.Ns C0 m₀) :
    (C.inner scope cl C0 (innerBase s₂ V ads ow h₁ D C0)).R { ρ := ρ₁, O := σ.O } V ads { s₂ with heap := h₁, toks := tk } := by
  have hge : s₂.heap.objs.size ≤ C0 := by rw [hC]; exact Nat.le_succ _
  have F := fresh_none R hge
  have kvs : ∀ b o, (innerBase s₂ V ads ow h₁ D C0).kv b = some o → h₁.get? b = some o := fun b o e => by
    simp only [innerBase] at e
    split at e
    · cases e
    · exact e
  have kva : ∀ l ∈ ads, (innerBase s₂ V ads ow h₁ D C0).kv l = none := fun l hl => by
    simp only [innerBase]
    rw [if_pos (.inl hl)]
  exact {
    same := ⟨h₁, tk, rfl⟩
    sees := fun b o e => old b o (R.sees b o e)
    glob := R.glob
    keep := kvs
    vnew := fun b o e => .inl ⟨o, e⟩
    frame := by
      refine ⟨m₀, hN, fun x l e => ?_⟩
      obtain ⟨h1, h2, h3, h4⟩ := hρ x l e
      obtain ⟨m, _, hx⟩ := R.frame
      obtain ⟨v, q1, q2⟩ := hx x l h1
      refine ⟨v, q1, .inr ⟨.inl h2, ?_⟩⟩
      rcases q2 with ⟨q, _⟩ | ⟨_, c, hc, hcell⟩
      · rcases h3 with h3 | h3 <;> (rw [h3] at q; cases q)
      · exact ⟨c, by show cl.lookup x = some c; rw [h4]; exact hc, hcell.keeps old⟩
    Lnew := hge
    hL := F.1
    kL := by
      show (if _ then none else _) = none
      rw [if_pos (.inr (.inr (.inr rfl)))]
    cells := fun h => by cases h
    olen := R.olen
    own := fun k xs e => by
      obtain ⟨l, vs, n, h1, h2, h3, h4, h5⟩ := R.own k xs e
      exact ⟨l, vs, n, h1, old _ _ h2, h3, h4, kva l (List.mem_of_getElem? h1)⟩
    inj := R.inj
    onew := fun k l hl e => absurd (List.getElem?_eq_some_iff.mp e).1 (Nat.not_lt.mpr hl)
    lentP := Pre.refl _
    aex := fun l hl => (R.aex l hl).imp fun o h => old _ _ h
    akv := kva
    cex := fun x c e => (R.cex x c (hcl x c e)).imp fun o h => old _ _ h
    adL := F.2.2.2.2
    adC := fun x c e => R.adC x c (hcl x c e) }

theorem inner_back {V V' : View} {ads ads' ow : List Addr} {s₂ s' : Shared} {h₁ : Heap} {D C0 : Addr} {scope : Scope} {cl : List (Str × Addr)} {σ' : St} (R : C.R σ V ads s₂) (hw : ∀ b ∈ ow, Aside C V ads s₂.heap b)
    (hD : D = s₂.heap.objs.size) (hC : C0 = s₂.heap.objs.size + 1) (old : ∀ b o, s₂.heap.get? b = some o → h₁.get? b = some o) (le : V.Le V') (pr : Pre ads ads')
    (R' : (C.inner scope cl C0 (innerBase s₂ V ads ow h₁ D C0)).R σ' V' ads' s') : C.R { ρ := σ.ρ, O := σ'.O } V' ads' s' := by
  have keep : ∀ b o, b ∉ ads → b ∉ ow → s₂.heap.get? b = some o → s'.heap.get? b = some o := fun b o h1 h2 e => R'.keep b o (by
    have hlt := Heap.lt_size e
    show (if _ then none else _) = some o
    rw [if_neg, old b o e]
    rintro (h | h | h | h)
    · exact h1 h
    · exact h2 h
    · exact absurd hlt (by rw [h, hD]; exact Nat.lt_irrefl _)
    · exact absurd hlt (by rw [h, hC]; exact Nat.not_lt.mpr (Nat.le_succ _)))
  have kvn : ∀ b, s₂.heap.objs.size ≤ b → C.bs.kv b = none := fun b hb => R.keep.none_of (get?_ge hb)
  have kva : ∀ l ∈ ads', C.bs.kv l = none := fun l hl => by
    obtain ⟨k, hk, e⟩ := List.getElem_of_mem hl
    by_cases hlt : k < ads.length
    · have := pr.get (List.getElem?_eq_getElem hlt)
      rw [List.getElem?_eq_getElem hk, e] at this
      cases this
      exact R.akv _ (List.getElem_mem hlt)
    · exact kvn l (R'.onew k l (Nat.not_lt.mp hlt) (by rw [List.getElem?_eq_getElem hk, e]))
  exact {
    same := by
      obtain ⟨h, t, e⟩ := R'.same
      obtain ⟨h', t', e'⟩ := R.same
      refine ⟨h, t, ?_⟩
      rw [e]
      show ({ s₂ with heap := h, toks := t } : Shared) = _
      rw [e']
    sees := R'.sees
    glob := R'.glob
    keep := fun b o e => keep b o (fun h => by rw [R.akv b h] at e; cases e) (fun h => by rw [(hw b h).kv] at e; cases e) (R.keep b o e)
    vnew := fun b o e => by
      rcases R'.vnew b o e with ⟨o', e'⟩ | ⟨h1, _⟩
      · exact R.vnew b o' e'
      · exact .inr ⟨Nat.le_trans (Nat.le_of_lt R.size) h1, kvn b h1⟩
    frame := by
      obtain ⟨m, ⟨o, es, ep, ho, hN⟩, hx⟩ := R.frame
      refine ⟨m, ⟨o, es, ep, keep _ _ R.adL (fun h => (hw _ h).L rfl) ho, hN⟩, fun x l e => ?_⟩
      obtain ⟨v, q1, q2⟩ := hx x l e
      refine ⟨v, q1.mono le pr, q2.imp id fun ⟨a, c, hc, oc, ho', hd⟩ => ⟨a, c, hc, oc, keep _ _ (R.adC x c hc) (fun h => (hw _ h).cells x hc) ho', hd⟩⟩
    Lnew := R.Lnew
    hL := by
      cases e : V' C.env.locals with
      | none => rfl
      | some o =>
        rcases R'.vnew _ _ e with ⟨o', e'⟩ | ⟨h1, _⟩
        · have : V C.env.locals = some o' := e'
          rw [R.hL] at this; cases this
        · obtain ⟨m, hN, _⟩ := R.frame
          exact absurd hN.lt (Nat.not_lt.mpr h1)
    kL := R.kL
    cells := fun hc x c e => by
      obtain ⟨⟨v, o, q1, q2⟩, h2, h3, h4⟩ := R.cells hc x c e
      refine ⟨⟨v, o, keep _ _ (R.adC x c e) (fun h => (hw _ h).cells x e) q1, q2⟩, ?_, h3, h4⟩
      cases e' : V' c with
      | none => rfl
      | some o =>
        rcases R'.vnew _ _ e' with ⟨o', e''⟩ | ⟨h1, _⟩
        · have : V c = some o' := e''
          rw [h2] at this; cases this
        · exact absurd (Heap.lt_size q1) (Nat.not_lt.mpr h1)
    olen := R'.olen
    own := fun k xs e => by
      obtain ⟨l, vs, n, h1, h2, h3, h4, _⟩ := R'.own k xs e
      exact ⟨l, vs, n, h1, h2, h3, h4, kva l (List.mem_of_getElem? h1)⟩
    inj := R'.inj
    onew := fun k l hl e => by
      by_cases hlt : k < ads.length
      · have := pr.get (List.getElem?_eq_getElem hlt)
        rw [e] at this
        cases this
        exact R.onew k _ hl (List.getElem?_eq_getElem hlt)
      · exact Nat.le_trans (Nat.le_of_lt R.size) (R'.onew k l (Nat.not_lt.mp hlt) e)
    lentP := R.lentP.trans pr
    aex := R'.aex
    akv := kva
    cex := fun x c e => (R.cex x c e).imp fun o ho => keep _ _ (R.adC x c e) (fun h => (hw _ h).cells x e) ho
    adL := fun h => by
      obtain ⟨k, hk, e⟩ := List.getElem_of_mem h
      by_cases hlt : k < ads.length
      · have := pr.get (List.getElem?_eq_getElem hlt)
        rw [List.getElem?_eq_getElem hk, e] at this
        exact R.adL (Option.some.inj this ▸ List.getElem_mem hlt)
      · obtain ⟨m, hN, _⟩ := R.frame
        have := R'.onew k C.env.locals (Nat.not_lt.mp hlt) (by rw [List.getElem?_eq_getElem hk, e])
        exact absurd hN.lt (Nat.not_lt.mpr this)
    adC := fun x c ec h => by
      obtain ⟨k, hk, e⟩ := List.getElem_of_mem h
      by_cases hlt : k < ads.length
      · have := pr.get (List.getElem?_eq_getElem hlt)
        rw [List.getElem?_eq_getElem hk, e] at this
        exact R.adC x c ec (Option.some.inj this ▸ List.getElem_mem hlt)
      · obtain ⟨o, ho⟩ := R.cex x c ec
        have := R'.onew k c (Nat.not_lt.mp hlt) (by rw [List.getElem?_eq_getElem hk, e])
        exact absurd (Heap.lt_size ho) (Nat.not_lt.mpr this) }

theorem comp_block {A : Around} {E : Value → Shared → Prop} {V : View} {ads : List Addr} {s₂ : Shared} {target iter elt : Expr} {ifs : List Expr} {scope : Scope} {cl : List (Str × Addr)} {pos : Pos} {it : Value} {items : List Item} {ρ₁ : List (Str × Loc)} {RR : Value → Addr → Result → Shared → Prop}
    (rm : RoomF A C.d C.fr) (R : C.R σ V ads s₂) (hit : IterAt C A V ads target it items s₂.heap) (hsz : items.length ≤ 1000000)
    (hcell : ∀ y ∈ scope.names, y.2 ≠ .cell) (hkind : scope.kind = .function) (hρ : Reads C scope cl σ ρ₁) (hcl : ∀ x c, cl.lookup x = some c → C.env.cells.lookup x = some c)
    (Inv : Nat → List PV → St → Prop) (h0 : Inv 0 [] ⟨ρ₁, σ.O⟩)
    (step : ∀ C0 bs', bs'.lent.length = σ.O.length → bs'.cellsOwn = false → ∀ (i : Nat) x zs σ₁, items[i]? = some x → Inv i zs σ₁ → WItem (C.inner scope cl C0 bs') target x σ₁ fun σ₂ =>
      WTests (C.inner scope cl C0 bs') ifs σ₂ fun b σ₃ => if b = true then WE (C.inner scope cl C0 bs') elt σ₃ fun r σ₄ => ∃ p σ₅, r = .pv p ∧ Less σ₄ σ₅ ∧ Inv (i + 1) (zs ++ [p]) σ₅ else ∃ σ₅, Less σ₃ σ₅ ∧ Inv (i + 1) zs σ₅)
    (hRR : ∀ D C0 h' tk m' zs vs n σ' V' ads', V.Le V' → Pre ads ads' → s₂.heap.objs.size ≤ D → s₂.heap.objs.size ≤ C0 → D ≠ C0 → h'.Ns C0 m' → h'.get? D = some (lst vs n) → Reps V' zs vs.toList →
      C.R { ρ := σ.ρ, O := σ'.O } V' ads' { s₂ with heap := h', toks := tk } → Aside C V' ads' h' D → Aside C V' ads' h' C0 → Inv items.length zs σ' → RR (.ref D) C0 (.ok .next) { s₂ with heap := h', toks := tk }) :
    wpAny (model C.prog C.w) A (newList []) (fun acc s₃ => wpAny (model C.prog C.w) A (newFunctionEnv scope C.env.globals cl [] C.env.qual none .none (some C.env)) (fun cenv s₄ =>
      codeAny (model C.prog C.w) A (.compStart (.ListComp elt [⟨target, iter, ifs, 0⟩] scope pos) 0 it acc { cenv with scope := relabel scope C.env }) (RR acc cenv.locals) s₄) E s₃) E s₂ := by
  obtain ⟨I, ow, wr, St, Mid, rfl, Wk, hst, hw⟩ := hit
  refine wpAny_newObj_type (wpAny_newFunctionEnv hcell (by intro y hy; simp at hy) (fun h₁ hns₁ hsb₁ => ?_) hkind)
  dsimp only at hns₁ hsb₁ ⊢
  generalize hH2 : s₂.heap.push { cls := .type "list", dict := none, data := .seq ([] : List Value).toArray } = H2 at hns₁ hsb₁ ⊢
  have hC : H2.objs.size = s₂.heap.objs.size + 1 := by rw [← hH2, Heap.size_push]
  have hDC : s₂.heap.objs.size ≠ H2.objs.size := by rw [hC]; exact Nat.ne_of_lt (Nat.lt_succ_self _)
  have below : ∀ b, b < s₂.heap.objs.size → b ≠ H2.objs.size := fun b hb => by rw [hC]; exact Nat.ne_of_lt (Nat.lt_succ_of_lt hb)
  have old : ∀ b o, s₂.heap.get? b = some o → h₁.get? b = some o := fun b o e => hsb₁.extBut b o (below b (Heap.lt_size e)) (Heap.get?_push_of_some _ (hH2 ▸ Heap.get?_push_of_some _ e))
  have hacc : h₁.get? s₂.heap.objs.size = some (lst #[] 0) := hsb₁.extBut _ _ hDC (Heap.get?_push_of_some _ (hH2 ▸ Heap.get?_push_size _ rfl))
  generalize hD0 : s₂.heap.objs.size = D at hC hDC hacc
  generalize hC0 : H2.objs.size = C0 at hC hDC below hns₁ hsb₁
  have hDow : D ∉ ow := fun h => by
    obtain ⟨o, ho⟩ := (hw D h).there
    exact absurd (Heap.lt_size ho) (by rw [hD0]; exact Nat.lt_irrefl _)
  have hCow : C0 ∉ ow := fun h => by
    obtain ⟨o, ho⟩ := (hw C0 h).there
    exact absurd (Heap.lt_size ho) (by rw [hD0, hC]; exact Nat.not_lt.mpr (Nat.le_succ _))
  have hst₁ : St 0 h₁ := Wk.frame _ _ _ hst (R.sees.keeps old) fun b _ o e => old b o e
  have kvd : ∀ b, b ∈ ads ∨ b ∈ ow ∨ b = D ∨ b = C0 → (innerBase s₂ V ads ow h₁ D C0).kv b = none := fun b hb => by
    show (if _ then none else _) = none
    rw [if_pos hb]
  -- what is set aside in the inner block
  have asd : ∀ b ∈ D :: ow, Aside (C.inner scope cl C0 (innerBase s₂ V ads ow h₁ D C0)) V ads h₁ b := fun b hb => by
    rcases List.mem_cons.mp hb with rfl | hb
    · have F := fresh_none R (a := b) (Nat.le_of_eq hD0)
      exact ⟨F.1, kvd _ (.inr (.inr (.inl rfl))), hDC, fun x e => F.2.2.2.1 x (hcl x _ e), F.2.2.2.2, _, hacc⟩
    · exact ⟨(hw b hb).v, kvd _ (.inr (.inl hb)), fun e => hCow (by rw [← show b = C0 from e]; exact hb), fun x e => (hw b hb).cells x (hcl x _ e), (hw b hb).ads, (hw b hb).there.imp fun o e => old _ _ e⟩
  have loop : ∀ s₃ : Shared, s₃ = { s₂ with heap := h₁, toks := s₂.toks + ([] : List (Str × Value)).length } →
      codeAny (model C.prog C.w) A (.compLoop (.ListComp elt [⟨target, iter, ifs, 0⟩] scope pos) 0 (.ref I) (.ref D) (compEnvC scope cl C0 C.env)) (RR (.ref D) C0) s₃ := by
    rintro s₃ rfl
    have R₁ := inner_start (tk := s₂.toks + ([] : List (Str × Value)).length) (ow := ow) (D := D) (C0 := C0) (scope := scope) (cl := cl) (ρ₁ := ρ₁) R hρ hcl hD0.symm (by rw [hC, ← hD0]) old hns₁
    refine compLoop_any (fun k s' => ∃ i zs σ' V' ads' vs n, V.Le V' ∧ Pre ads ads' ∧ (C.inner scope cl C0 (innerBase s₂ V ads ow h₁ D C0)).R σ' V' ads' s' ∧ St i s'.heap ∧ Inv i zs σ' ∧
      (∀ b ∈ D :: ow, Aside (C.inner scope cl C0 (innerBase s₂ V ads ow h₁ D C0)) V' ads' s'.heap b) ∧ s'.heap.get? D = some (lst vs n) ∧ Reps V' zs vs.toList ∧ i ≤ items.length ∧ zs.length ≤ i ∧ k = items.length + 1 - i) ?_ (items.length + 1)
      ⟨0, [], _, V, ads, #[], 0, View.Le.refl _, Pre.refl _, R₁, hst₁, h0, asd, hacc, .nil, Nat.zero_le _, Nat.le_refl _, rfl⟩
    rintro k s' ⟨i, zs, σ', V', ads', vs, n, le', pr', R', hst', hI, hw', hD, rs, hi, hz, rfl⟩
    cases hx : items[i]? with
    | none =>
      have : i = items.length := items_at hi hx
      subst this
      refine Wk.done s' _ _ hst' fun h₂ tk kp => ?_
      have R₂ := R'.but (s' := { s' with heap := h₂, toks := tk }) ⟨h₂, tk, rfl⟩ (fun b hb => hw' b (List.mem_cons_of_mem _ (Wk.own b hb))) kp
      obtain ⟨g, t, eg⟩ := R'.same
      have eg : s' = { s₂ with heap := g, toks := t } := eg
      subst eg
      have hD₂ : h₂.get? D = some (lst vs n) := kp _ _ (fun h => hDow (Wk.own _ h)) hD
      have Rb := inner_back R hw hD0.symm (by rw [hC, ← hD0]) old le' pr' R₂
      obtain ⟨m', hN, _⟩ := R₂.frame
      have hge : s₂.heap.objs.size ≤ C0 := by rw [hC, hD0]; exact Nat.le_succ _
      have FD := fresh_none R (a := D) (Nat.le_of_eq hD0)
      have FC := fresh_none R (a := C0) hge
      have aD := hw' D List.mem_cons_self
      refine hRR D C0 h₂ tk m' zs vs n σ' V' ads' le' pr' (Nat.le_of_eq hD0) hge hDC hN hD₂ rs Rb ⟨aD.v, FD.2.1, FD.2.2.1, FD.2.2.2.1, aD.ads, _, hD₂⟩ ⟨R₂.hL, FC.2.1, FC.2.2.1, FC.2.2.2.1, R₂.adL, ?_⟩ hI
      obtain ⟨o, es, ep, ho, _⟩ := hN
      exact ⟨o, ho⟩
    | some x =>
      refine Wk.item i x s' _ _ hx hst' fun v h₂ tk hmid kp => ?_
      have R₂ := R'.but (s' := { s' with heap := h₂, toks := tk }) ⟨h₂, tk, rfl⟩ (fun b hb => hw' b (List.mem_cons_of_mem _ (Wk.own b hb))) kp
      have hD₂ : h₂.get? D = some (lst vs n) := kp _ _ (fun h => hDow (Wk.own _ h)) hD
      have hw₂ : ∀ b ∈ D :: ow, Aside (C.inner scope cl C0 (innerBase s₂ V ads ow h₁ D C0)) V' ads' h₂ b := fun b hb => (hw' b hb).mono (by
        rcases List.mem_cons.mp hb with rfl | hb
        · exact ⟨_, hD₂⟩
        · exact Wk.thereM i v h₂ hmid b hb)
      refine Wk.go i x v _ _ _ hx hmid fun h₃ hst₃ hv kp₃ => ?_
      have R₃ := R₂.but (s' := { s' with heap := h₃, toks := tk }) ⟨h₃, tk, rfl⟩ (fun b hb => hw₂ b (List.mem_cons_of_mem _ (Wk.own b hb))) kp₃
      have hD₃ : h₃.get? D = some (lst vs n) := kp₃ _ _ (fun h => hDow (Wk.own _ h)) hD₂
      have hw₃ : ∀ b ∈ D :: ow, Aside (C.inner scope cl C0 (innerBase s₂ V ads ow h₁ D C0)) V' ads' h₃ b := fun b hb => (hw₂ b hb).mono (by
        rcases List.mem_cons.mp hb with rfl | hb
        · exact ⟨_, hD₃⟩
        · exact Wk.there _ h₃ hst₃ b hb)
      have R₄ := R₃.aside hw₃
      have hlt : i < items.length := (List.getElem?_eq_some_iff.mp hx).1
      refine item_goes (C := (C.inner scope cl C0 (innerBase s₂ V ads ow h₁ D C0)).wb (asideBase (innerBase s₂ V ads ow h₁ D C0) V' h₃ (D :: ow))) (step C0 (asideBase (innerBase s₂ V ads ow h₁ D C0) V' h₃ (D :: ow)) R.olen rfl i x zs σ' hx hI) rm R₄ (hv.mono le') fun _ s₅ V₅ ads₅ _ σ₅ le₅ pr₅ R₅ _ h₅ => ?_
      refine h₅ A _ s₅ V₅ ads₅ _ rm R₅ fun ok s₆ V₆ ads₆ b σ₆ le₆ pr₆ R₆ eb q => ?_
      subst eb
      cases ok with
      | false =>
        simp only [Bool.false_eq_true, if_false] at q ⊢
        obtain ⟨σ₇, hl, hI₇⟩ := q
        obtain ⟨R₇, same, hw₇⟩ := R₃.unaside hw₃ R₆
        have le₇ := le'.trans (le₅.trans le₆)
        have pr₇ := pr'.trans (pr₅.trans pr₆)
        exact ⟨items.length + 1 - (i + 1), by lia, i + 1, zs, σ₇, V₆, ads₆, vs, n, le₇, pr₇, R₇.less hl, Wk.frame _ _ _ hst₃ (fun b o e => R₇.sees b o (le₇ b o e)) (fun b hb => same b (List.mem_cons_of_mem _ hb)), hI₇, hw₇,
          same _ List.mem_cons_self _ hD₃, Reps.mono (le₅.trans le₆) _ rs, hlt, Nat.le_succ_of_le hz, rfl⟩
      | true =>
        simp only [if_true] at q ⊢
        refine q A _ s₆ V₆ ads₆ _ rm R₆ fun y s₇ V₇ ads₇ r σ₇ le₇ pr₇ R₇ hy q => ?_
        obtain ⟨p, σ₈, rfl, hl, hI₈⟩ := q
        obtain ⟨R₈, same, hw₈⟩ := R₃.unaside hw₃ R₇
        have le₈ := le'.trans (le₅.trans (le₆.trans le₇))
        have pr₈ := pr'.trans (pr₅.trans (pr₆.trans pr₇))
        have hD₈ := same _ List.mem_cons_self _ hD₃
        have hlen := rs.length
        simp only [Array.length_toList] at hlen
        refine append_lst hD₈ (by rw [sizeLine_eq]; lia) ?_
        have R₉ := (R₈.less hl).but (s' := { s₇ with heap := s₇.heap.update D (Obj.mapSeq fun xs => xs.push y) }) (wr := [D]) ⟨_, _, rfl⟩ (fun b hb => by rw [List.mem_singleton] at hb; subst hb; exact hw₈ b List.mem_cons_self) (fun b o hb e => upd_keeps D _ b o (by simpa using hb) e)
        have hD₉ : (s₇.heap.update D (Obj.mapSeq fun xs => xs.push y)).get? D = _ := IsL.update hD₈ _
        refine ⟨items.length + 1 - (i + 1), by lia, i + 1, zs ++ [p], σ₈, V₇, ads₇, _, _, le₈, pr₈, R₉, ?_, hI₈, fun b hb => ?_, hD₉, by simpa using (Reps.mono (le₅.trans (le₆.trans le₇)) _ rs).append (.cons hy .nil), hlt, by rw [List.length_append]; exact Nat.succ_le_succ hz, rfl⟩
        · exact Wk.frame _ _ _ hst₃ (fun b o e => R₉.sees b o (le₈ b o e)) (fun b hb o e => upd_keeps D _ b o (fun q => hDow (q ▸ hb)) (same b (List.mem_cons_of_mem _ hb) o e))
        · refine (hw₈ b hb).mono ?_
          rcases List.mem_cons.mp hb with rfl | hb
          · exact ⟨_, hD₉⟩
          · obtain ⟨o, ho⟩ := (hw₈ b (List.mem_cons_of_mem _ hb)).there
            exact ⟨o, upd_keeps D _ b o (fun q => hDow (q ▸ hb)) ho⟩
  exact codeAny_compStart_list (loop _ rfl) (Wk.self 0 _ _ _ hst₁ (loop _ rfl))
end

end CR
namespace CR
open PySem PySem.W PyProof.Rows

def closureList (scope : Scope) (env : Env) : List (Str × Addr) := (scope.names.filterMap fun p => if p.2 == .free then (env.cells.lookup p.1).map fun c => (p.1, c) else none).reverse

def freeOk (names : List (Str × NameKind)) (env : Env) : Bool := names.all fun p => p.2 != .free || (env.cells.lookup p.1).isSome

theorem closureFor_go (env : Env) : ∀ (names : List (Str × NameKind)) (acc : List (Str × Addr)), freeOk names env = true →
    (forIn names acc fun x r => if (x.2 == NameKind.free) = true then do let c ← cellOf env x.1; pure (ForInStep.yield ((x.1, c) :: r)) else pure (ForInStep.yield r) : Sem (List (Str × Addr))) =
      pure ((names.filterMap fun p => if p.2 == .free then (env.cells.lookup p.1).map fun c => (p.1, c) else none).reverse ++ acc)
  | [], acc, _ => rfl
  | (n, k) :: r, acc, h => by
    have h' : freeOk r env = true := by
      unfold freeOk at h ⊢
      rw [List.all_cons, Bool.and_eq_true] at h
      exact h.2
    rw [List.forIn_cons, List.filterMap_cons]
    cases hk : k == NameKind.free with
    | false =>
      dsimp only
      simp only [Bool.false_eq_true, if_false]
      rw [pure_bind]
      exact closureFor_go env r acc h'
    | true =>
      dsimp only
      have hk' : k = NameKind.free := by cases k <;> first | rfl | cases hk
      subst hk'
      have hc : (env.cells.lookup n).isSome = true := by
        unfold freeOk at h
        rw [List.all_cons, Bool.and_eq_true] at h
        simpa using h.1
      obtain ⟨c, hc⟩ := Option.isSome_iff_exists.mp hc
      simp only [if_true]
      have e : (cellOf env n : Sem Addr) = pure c := by
        unfold cellOf
        rw [hc]
      rw [e, hc]
      simp only [Option.map_some]
      rw [pure_bind, pure_bind]
      refine (closureFor_go env r _ h').trans ?_
      rw [List.reverse_cons, List.append_assoc]
      rfl
theorem closureFor_list {scope : Scope} {env : Env} (h : freeOk scope.names env = true) : closureFor scope env = pure (closureList scope env) := by
  have := closureFor_go env scope.names [] h
  unfold closureFor
  rw [List.append_nil] at this
  exact (congrArg (· >>= pure) this).trans (by rw [pure_bind]; rfl)

theorem closureList_le {scope : Scope} {env : Env} : ∀ x c, (closureList scope env).lookup x = some c → env.cells.lookup x = some c := fun x c h => by
  have hm : (x, c) ∈ closureList scope env := mem_of_lookup h
  unfold closureList at hm
  rw [List.mem_reverse, List.mem_filterMap] at hm
  obtain ⟨p, _, hp⟩ := hm
  split at hp
  · rw [Option.map_eq_some_iff] at hp
    obtain ⟨a, h1, h2⟩ := hp
    cases h2
    exact h1
  · cases hp
theorem closureList_eq {scope : Scope} {env : Env} {x : Str} (hx : (x, NameKind.free) ∈ scope.names) : (closureList scope env).lookup x = env.cells.lookup x := by
  cases h : env.cells.lookup x with
  | none =>
    cases h' : (closureList scope env).lookup x with
    | none => rfl
    | some c => rw [closureList_le x c h'] at h; cases h
  | some c =>
    have hm : (x, c) ∈ closureList scope env := by
      unfold closureList
      rw [List.mem_reverse, List.mem_filterMap]
      exact ⟨_, hx, by simp [h]⟩
    cases h' : (closureList scope env).lookup x with
    | none =>
      rw [List.lookup_eq_none_iff] at h'
      have := h' _ hm
      simp at this
    | some c' =>
      have := closureList_le x c' h'
      rw [h] at this
      exact this.symm

/-- does the inner block read this name of the outer one -/
def readable (scope : Scope) (env : Env) (x : Str) : Bool := ((relabel scope env).names.lookup x == some .cell) && (env.kindOf x == some .cell || env.kindOf x == some .free) && scope.names.any fun p => p.1 == x && p.2 == .free

section
variable {C : Cx} {σ : St}

theorem reads_of {scope : Scope} {ρ₁ : List (Str × Loc)} (h : ∀ x l, ρ₁.lookup x = some l → σ.ρ.lookup x = some l ∧ readable scope C.env x = true) : Reads C scope (closureList scope C.env) σ ρ₁ := fun x l e => by
  obtain ⟨h1, h2⟩ := h x l e
  unfold readable at h2
  simp only [Bool.and_eq_true, Bool.or_eq_true, List.any_eq_true] at h2
  obtain ⟨⟨h3, h4⟩, p, hp, h5, h6⟩ := h2
  have hf : ∀ (o : Option NameKind) k, (o == some k) = true → o = some k := fun o k e => by
    cases o with
    | none => cases e
    | some k' => cases k' <;> cases k <;> first | rfl | cases e
  refine ⟨h1, hf _ _ h3, h4.imp (hf _ _) (hf _ _), closureList_eq ?_⟩
  obtain ⟨n, k⟩ := p
  have e1 : n = x := by simpa using h5
  have e2 : k = .free := by cases k <;> first | rfl | cases h6
  subst e1 e2
  exact hp

theorem Rel.addAV {V : View} {ads : List Addr} {s : Shared} {b : Addr} {ob : Obj} (R : C.R σ V ads s) (a : Aside C V ads s.heap b) (hb : C.bs.s₀.heap.objs.size ≤ b) (hg : s.heap.get? b = some ob) : C.R σ (V.add b ob) ads s ∧ V.Le (V.add b ob) := by
  refine ⟨R.grow (View.le_add a.v) (fun c o h => ?_) (fun c o h => ?_), View.le_add a.v⟩
  · rcases View.add_cases h with ⟨rfl, rfl⟩ | ⟨_, h⟩
    · exact hg
    · exact R.sees c o h
  · rcases View.add_cases h with ⟨rfl, rfl⟩ | ⟨_, h⟩
    · exact .inr ⟨hb, a.kv, a.L, a.cells, a.ads⟩
    · exact .inl ⟨o, h⟩

theorem Rel.addA {V : View} {ads : List Addr} {s : Shared} {b : Addr} {vs : Array Value} {n : Nat} {xs : List PV} (R : C.R σ V ads s) (a : Aside C V ads s.heap b) (hb : C.bs.s₀.heap.objs.size ≤ b) (hg : s.heap.get? b = some (lst vs n)) (rs : Reps V xs vs.toList) : C.R (σ.addO xs) V (ads ++ [b]) s where
  same := R.same
  sees := R.sees
  glob := R.glob
  keep := R.keep
  vnew := R.vnew
  frame := by
    obtain ⟨m, hN, hx⟩ := R.frame
    refine ⟨m, hN, fun x l e => ?_⟩
    obtain ⟨v, h1, h2⟩ := hx x l e
    exact ⟨v, h1.mono (View.Le.refl V) ⟨[b], rfl⟩, h2⟩
  Lnew := R.Lnew
  hL := R.hL
  kL := R.kL
  cells := R.cells
  olen := by rw [List.length_append, List.length_append, R.olen]; rfl
  own := fun j ys h => by
    by_cases hj : j < σ.O.length
    · rw [List.getElem?_append_left hj] at h
      obtain ⟨l, us, m, h1, h2, h3, h4, h5⟩ := R.own j ys h
      exact ⟨l, us, m, by rw [List.getElem?_append_left (by rw [R.olen]; exact hj)]; exact h1, h2, h3, h4, h5⟩
    · have hj' := (List.getElem?_eq_some_iff.mp h).1
      rw [List.length_append] at hj'
      have hj2 : j = σ.O.length := by simp only [List.length_cons, List.length_nil] at hj'; lia
      subst hj2
      rw [List.getElem?_append_right (Nat.le_refl _), Nat.sub_self] at h
      simp only [List.getElem?_cons_zero, Option.some.injEq] at h
      subst h
      refine ⟨b, vs, n, ?_, hg, rs, a.v, a.kv⟩
      rw [List.getElem?_append_right (by rw [R.olen]; exact Nat.le_refl _), R.olen, Nat.sub_self]; rfl
  inj := List.nodup_append.mpr ⟨R.inj, by simp, fun x hx y hy => by
    rw [List.mem_singleton] at hy
    subst hy
    exact fun e => a.ads (e ▸ hx)⟩
  onew := fun j l hl h => by
    by_cases hj : j < ads.length
    · rw [List.getElem?_append_left hj] at h
      exact R.onew j l hl h
    · rw [List.getElem?_append_right (Nat.not_lt.mp hj)] at h
      have : l = b := by
        have := List.mem_of_getElem? h
        simpa using this
      subst this
      exact hb
  lentP := R.lentP.trans ⟨[b], rfl⟩
  aex := fun l hl => by
    rcases List.mem_append.mp hl with h | h
    · exact R.aex l h
    · rw [List.mem_singleton] at h; subst h; exact ⟨_, hg⟩
  akv := fun l hl => by
    rcases List.mem_append.mp hl with h | h
    · exact R.akv l h
    · rw [List.mem_singleton] at h; subst h; exact a.kv
  cex := R.cex
  adL := fun h => by
    rcases List.mem_append.mp h with h | h
    · exact R.adL h
    · rw [List.mem_singleton] at h; exact a.L h.symm
  adC := fun x c e h => by
    rcases List.mem_append.mp h with h | h
    · exact R.adC x c e h
    · rw [List.mem_singleton] at h; exact a.cells x (h ▸ e)

theorem new_aside {V : View} {ads : List Addr} {s : Shared} {b : Addr} {vs : Array Value} {n : Nat} {xs : List PV} {Q : Loc → St → Prop} {Q' : Value → Shared → Prop} (R : C.R σ V ads s) (a : Aside C V ads s.heap b) (hb : C.bs.s₀.heap.objs.size ≤ b) (hg : s.heap.get? b = some (lst vs n)) (rs : Reps V xs vs.toList)
    (g : Goes C LocRep Q V ads Q') (q : New σ xs Q) : Q' (.ref b) s := by
  rcases q with q | q
  · obtain ⟨R', le⟩ := R.addAV a hb hg
    refine g _ s _ ads (.pv (.list xs)) σ le (Pre.refl _) R' ?_ q
    simp only [LocRep, Rep]
    exact ⟨b, vs, n, rfl, View.add_self, Reps.mono le _ rs⟩
  · refine g _ s V (ads ++ [b]) (.own σ.O.length) _ (View.Le.refl _) ⟨[b], rfl⟩ (R.addA a hb hg rs) ⟨b, ?_, rfl⟩ q
    rw [← R.olen, List.getElem?_append_right (Nat.le_refl _), Nat.sub_self]; rfl

/-- what a comprehension's block does -/
def CompOf (C : Cx) (scope : Scope) (target : Expr) (ifs : List Expr) (elt : Expr) (items : List Item) (σ : St) (Fin : List PV → St → Prop) : Prop :=
  items.length ≤ 1000000 ∧ ∃ ρ₁ : List (Str × Loc), (∀ x l, ρ₁.lookup x = some l → σ.ρ.lookup x = some l ∧ readable scope C.env x = true) ∧ ∃ Inv : Nat → List PV → St → Prop, Inv 0 [] ⟨ρ₁, σ.O⟩ ∧
    (∀ C0 bs', bs'.lent.length = σ.O.length → bs'.cellsOwn = false → ∀ (i : Nat) x zs σ₁, items[i]? = some x → Inv i zs σ₁ → WItem (C.inner scope (closureList scope C.env) C0 bs') target x σ₁ fun σ₂ =>
      WTests (C.inner scope (closureList scope C.env) C0 bs') ifs σ₂ fun b σ₃ => if b = true then WE (C.inner scope (closureList scope C.env) C0 bs') elt σ₃ fun r σ₄ => ∃ p σ₅, r = .pv p ∧ Less σ₄ σ₅ ∧ Inv (i + 1) (zs ++ [p]) σ₅ else ∃ σ₅, Less σ₃ σ₅ ∧ Inv (i + 1) zs σ₅) ∧
    ∀ zs σ', Inv items.length zs σ' → Fin zs { ρ := σ.ρ, O := σ'.O }

theorem e_comp {target iter elt : Expr} {ifs : List Expr} {scope : Scope} {pos : Pos} {Q : Loc → St → Prop}
    (h : WIter C target iter σ fun items σ₁ => CompOf C scope target ifs elt items σ₁ fun zs σ₂ => New σ₂ zs Q)
    (hfree : freeOk scope.names C.env = true := by with_unfolding_all rfl) (hkind : scope.kind = .function := by with_unfolding_all rfl) (hnames : scope.names.all (fun x => x.2 != .cell && (x.2 != .local || scope.names.lookup x.1 == some .local)) = true := by with_unfolding_all rfl)
    (hs : ∀ x, foldedSetIterable iter C.env x = pure x := by intro _; with_unfolding_all rfl) : WE C (.ListComp elt [⟨target, iter, ifs, 0⟩] scope pos) σ Q := fun A E s V ads Q' rm R g => by
  have hcell : ∀ y ∈ scope.names, y.2 ≠ .cell := fun y hy e => by
    have := List.all_eq_true.mp hnames y hy
    rw [e] at this; simp at this
  have hloc : ∀ y ∈ scope.names, y.2 = .local → scope.names.lookup y.1 = some .local := fun y hy e => by
    have := List.all_eq_true.mp hnames y hy
    rw [e] at this
    simp only [Bool.and_eq_true, Bool.or_eq_true] at this
    rcases this.2 with h | h
    · cases h
    · cases h' : scope.names.lookup y.1 with
      | none => rw [h'] at h; cases h
      | some k => rw [h'] at h; cases k <;> first | rfl | cases h
  rw [eval_ListComp]
  refine wpAny_comprehension_free (use := none) rfl hs (closureFor_list hfree) hkind hloc (h A E s V ads _ rm R fun it s₁ V₁ ads₁ items σ₁ le₁ pr₁ R₁ hit hl => ?_)
  obtain ⟨hsz, ρ₁, hρ, Inv, h0, step, fin⟩ := hl
  refine comp_block (RR := fun acc C0 => compPost (model C.prog C.w) A E none Q' acc C0) rm R₁ hit hsz hcell hkind (reads_of hρ) closureList_le Inv h0 step ?_
  intro D C0 h' tk m' zs vs n σ' V' ads' le pr hD hC hDC hN hg rs R' aD aC hI
  refine ⟨m', hN, fun h'' hs'' => ?_⟩
  have R'' := R'.but (s' := { s₁ with heap := h'', toks := tk }) (wr := [C0]) ⟨h'', tk, rfl⟩ (fun b hb => by rw [List.mem_singleton] at hb; subst hb; exact aC) fun b o hb e => hs''.extBut b o (by simpa using hb) e
  have hg'' : h''.get? D = some (lst vs n) := hs''.extBut _ _ hDC hg
  exact new_aside R'' (aD.mono ⟨_, hg''⟩) (Nat.le_trans (Nat.le_of_lt R₁.size) hD) hg'' rs ((g.later le₁ pr₁).later le pr) (fin zs σ' hI)

/-- `y = [..]`, the store before the block's names go -/
theorem s_assign_comp {y : Str} {py spos : Pos} {target iter elt : Expr} {ifs : List Expr} {scope : Scope} {pos : Pos} {Q : RF → St → Prop} (hy : Storable C y)
    (h : WIter C target iter σ fun items σ₁ => CompOf C scope target ifs elt items σ₁ fun zs σ₂ => New σ₂ zs fun r σ₃ => Q .next (σ₃.put y r))
    (hsw : swapsWith (.ListComp elt [⟨target, iter, ifs, 0⟩] scope pos) (some (.Name y py)) spos.line C.env = pure true := by with_unfolding_all rfl)
    (hfree : freeOk scope.names C.env = true := by with_unfolding_all rfl) (hkind : scope.kind = .function := by with_unfolding_all rfl) (hnames : scope.names.all (fun x => x.2 != .cell && (x.2 != .local || scope.names.lookup x.1 == some .local)) = true := by with_unfolding_all rfl)
    (hs : ∀ x, foldedSetIterable iter C.env x = pure x := by intro _; with_unfolding_all rfl) : WS C (.Assign [.Name y py] (.ListComp elt [⟨target, iter, ifs, 0⟩] scope pos) spos) σ Q := fun A E s V ads Q' rm R g => by
  have hcell : ∀ y ∈ scope.names, y.2 ≠ .cell := fun y hy e => by
    have := List.all_eq_true.mp hnames y hy
    rw [e] at this; simp at this
  have hloc : ∀ y ∈ scope.names, y.2 = .local → scope.names.lookup y.1 = some .local := fun y hy e => by
    have := List.all_eq_true.mp hnames y hy
    rw [e] at this
    simp only [Bool.and_eq_true, Bool.or_eq_true] at this
    rcases this.2 with h | h
    · cases h
    · cases h' : scope.names.lookup y.1 with
      | none => rw [h'] at h; cases h
      | some k => rw [h'] at h; cases k <;> first | rfl | cases h
  rw [exec_Assign_Name_used _ _ _ _ hsw]
  refine wpAny_bind (wpAny_standAt (wpAny_bind ?_))
  show wpAny _ A (do let _ ← comprehension (.ListComp elt [⟨target, iter, ifs, 0⟩] scope pos) scope C.env _ (newList []) false (eval iter C.env) (some (assign (.Name y py) C.env))) _ _ s
  refine wpAny_bind (wpAny_mono (wpAny_comprehension_free (use := some (assign (.Name y py) C.env)) (Q := fun _ s' => Q' .next s') rfl hs (closureFor_list hfree) hkind hloc
    (h A E s V ads _ rm R fun it s₁ V₁ ads₁ items σ₁ le₁ pr₁ R₁ hit hl => ?_)) (fun _ s' hq => wpAny_pure (wpAny_pure hq)) fun _ _ e => e)
  obtain ⟨hsz, ρ₁, hρ, Inv, h0, step, fin⟩ := hl
  refine comp_block (RR := fun acc C0 => compPost (model C.prog C.w) A E (some (assign (.Name y py) C.env)) (fun _ s' => Q' .next s') acc C0) rm R₁ hit hsz hcell hkind (reads_of hρ) closureList_le Inv h0 step ?_
  intro D C0 h' tk m' zs vs n σ' V' ads' le pr hD hC hDC hN hg rs R' aD aC hI
  show wpAny _ A (assign (.Name y py) C.env (.ref D)) _ _ _
  have aw : ∀ b ∈ [C0], Aside C V' ads' h' b := fun b hb => by rw [List.mem_singleton] at hb; subst hb; exact aC
  have Ra := R'.aside aw
  have aD' : Aside (C.wb (asideBase C.bs V' h' [C0])) V' ads' h' D := ⟨aD.v, by show (if D ∈ [C0] then _ else _) = none; rw [if_neg (by simpa using hDC)]; exact aD.kv, aD.L, aD.cells, aD.ads, aD.there⟩
  refine new_aside (C := C.wb (asideBase C.bs V' h' [C0])) (Q' := fun v s' => wpAny (model C.prog C.w) A (assign (.Name y py) C.env v) (fun _ s'' => ∃ m, s''.heap.Ns C0 m ∧ ∀ h'', Heap.SameBut C0 s''.heap h'' → Q' .next { s'' with heap := h'' }) E s') Ra aD' (Nat.le_trans (Nat.le_of_lt R₁.size) hD) hg rs ?_ (fin zs σ' hI)
  intro v s₂ V₂ ads₂ r σ₂ le₂ pr₂ R₂ r₂ q
  refine wpAny_assign_Name (R₂.put r₂ hy.1 hy.2 fun s₃ R₃ => ?_)
  obtain ⟨R₄, same, aC₄⟩ := R'.unaside aw R₃
  have hN₃ : s₃.heap.Ns C0 m' := by
    obtain ⟨o, es, ep, ho, hx⟩ := hN
    exact ⟨o, es, ep, same C0 (by simp) o ho, hx⟩
  refine ⟨m', hN₃, fun h'' hs'' => ?_⟩
  have R₅ := R₄.but (s' := { s₃ with heap := h'' }) (wr := [C0]) ⟨h'', s₃.toks, rfl⟩ aC₄ fun b o hb e => hs''.extBut b o (by simpa using hb) e
  exact g .next _ V₂ ads₂ RF.next _ (le₁.trans (le.trans le₂)) (pr₁.trans (pr.trans pr₂)) R₅ rfl q
end

end CR
namespace CR
open PySem PySem.W PyProof.Rows

structure Prg (K : Frag) (ad : Nat → Addr) : Prop where
  fn : ∀ i ∈ [4, 5, 6, 7, 8, 9, 10, 12, 13, 14, 15, 16, 17, 18, 19, 20, 22, 23, 24, 25, 26, 27, 28, 30, 31, 32, 33, 34, 35, 36, 37, 38], FnAt K (ad i) (paramsOf i) (bodyOf i) (scopeOf i)
  gl : ∀ i ∈ [4, 5, 6, 7, 8, 9, 10, 12, 13, 14, 15, 16, 17, 18, 19, 20, 22, 23, 24, 25, 26, 27, 28, 30, 31, 32, 33, 34, 35, 36, 37, 38], nsIn K mainGlobals (nameOf i) = some (some (.ref (ad i)))
  bi : ∀ x ∈ ["len", "range", "min", "any", "enumerate", "zip", "abs", "int", "sum"], nsIn K mainGlobals (Str.ofString x) = some none

abbrev pn (n : Nat) : Loc := .pv (.int (n : Int))

section
variable {C : Cx} {σ : St} {K : Frag} {ad : Nat → Addr}

theorem e_nat {n k : Nat} {pos : Pos} {Q : Loc → St → Prop} (q : Q (pn (@OfNat.ofNat Nat n (instOfNatNat n))) σ) : WE C (.Constant (.int (@OfNat.ofNat Int n (@instOfNat n))) k pos) σ Q := e_int q

section
variable {a b : Nat} {Q : Loc → St → Prop}
theorem add_nn (q : Q (pn (a + b)) σ) : W2 C LocRep (binaryOp .Add) (pn a) (pn b) σ Q := add_ii (by rw [← Int.natCast_add]; exact q)
theorem iadd_nn (q : Q (pn (a + b)) σ) : W2 C LocRep (inplaceOp .Add) (pn a) (pn b) σ Q := iadd_ii (by rw [← Int.natCast_add]; exact q)
theorem sub_nn (h : b ≤ a) (q : Q (pn (a - b)) σ) : W2 C LocRep (binaryOp .Sub) (pn a) (pn b) σ Q := sub_ii (by rw [← Int.ofNat_sub h]; exact q)
theorem isub_nn (h : b ≤ a) (q : Q (pn (a - b)) σ) : W2 C LocRep (inplaceOp .Sub) (pn a) (pn b) σ Q := isub_ii (by rw [← Int.ofNat_sub h]; exact q)
theorem lt_nn (q : Q (.pv (.bool (decide (a < b)))) σ) : W2 C LocRep (compareOp .Lt) (pn a) (pn b) σ Q := lt_ii (by rw [show decide ((a : Int) < b) = decide (a < b) from decide_eq_decide.mpr Int.ofNat_lt]; exact q)
theorem le_nn (q : Q (.pv (.bool (decide (a ≤ b)))) σ) : W2 C LocRep (compareOp .LtE) (pn a) (pn b) σ Q := le_ii (by rw [show decide ((a : Int) ≤ b) = decide (a ≤ b) from decide_eq_decide.mpr Int.ofNat_le]; exact q)
theorem gt_nn (q : Q (.pv (.bool (decide (b < a)))) σ) : W2 C LocRep (compareOp .Gt) (pn a) (pn b) σ Q := gt_ii (by rw [show decide ((a : Int) > b) = decide (b < a) from decide_eq_decide.mpr Int.ofNat_lt]; exact q)
theorem eq_nn (q : Q (.pv (.bool (decide (a = b)))) σ) : W2 C LocRep (compareOp .Eq) (pn a) (pn b) σ Q := eq_ii (by
  rw [show ((a : Int) == (b : Int)) = decide (a = b) by by_cases h : a = b <;> simp [h, Int.ofNat_inj]]; exact q)
theorem ne_nn (q : Q (.pv (.bool (decide (a ≠ b)))) σ) : W2 C LocRep (compareOp .NotEq) (pn a) (pn b) σ Q := ne_ii (by
  rw [show ((a : Int) != (b : Int)) = decide (a ≠ b) by by_cases h : a = b <;> simp [h, Int.ofNat_inj, bne]]; exact q)
theorem bits_le {a m : Nat} (h : a < 2 ^ m) : Builtin.Int.intBits (a : Int) ≤ m := intBits_le_iff.mpr (by rw [Int.natAbs_natCast]; exact h)
theorem mul_nn (h : a < 2 ^ 60 ∨ b < 2 ^ 60) (q : Q (pn (a * b)) σ) : W2 C LocRep (binaryOp .Mult) (pn a) (pn b) σ Q := mul_ii (by
  rcases h with h | h
  · exact .of_left (Nat.le_trans (bits_le h) (by decide))
  · exact .of_right (Nat.le_trans (bits_le h) (by decide))) (by rw [← Int.natCast_mul]; exact q)
theorem shl_nn (hb : b ≤ 1000000) (ha : a < 2 ^ 60) (q : Q (pn (a * 2 ^ b)) σ) : W2 C LocRep (binaryOp .LShift) (pn a) (pn b) σ Q := shl_ii (Int.natCast_nonneg b) (by lia) (by rw [Int.natAbs_natCast]; exact Nat.lt_trans ha (by decide)) (by
  rw [show ((a : Int) * 2 ^ (b : Int).toNat) = ((a * 2 ^ b : Nat) : Int) by rw [Int.toNat_natCast, Int.natCast_mul, Int.natCast_pow]; rfl]; exact q)
theorem shl1_nn (hb : b ≤ 1000000) (q : Q (pn (2 ^ b)) σ) : W2 C LocRep (binaryOp .LShift) (pn 1) (pn b) σ Q := shl_nn hb (by decide) (by rw [Nat.one_mul]; exact q)
theorem shr_nn (q : Q (pn (a / 2 ^ b)) σ) : W2 C LocRep (binaryOp .RShift) (pn a) (pn b) σ Q := shr_ii (Int.natCast_nonneg b) (by
  rw [show ((a : Int).fdiv (2 ^ (b : Int).toNat)) = ((a / 2 ^ b : Nat) : Int) by
    rw [Int.toNat_natCast, Int.fdiv_eq_ediv_of_nonneg _ (by have := Int.pow_pos (n := 2) (m := b) (by decide); lia), Int.natCast_ediv, Int.natCast_pow]; rfl]; exact q)
theorem ishr_nn (q : Q (pn (a / 2 ^ b)) σ) : W2 C LocRep (inplaceOp .RShift) (pn a) (pn b) σ Q := ishr_ii (Int.natCast_nonneg b) (by
  rw [show ((a : Int).fdiv (2 ^ (b : Int).toNat)) = ((a / 2 ^ b : Nat) : Int) by
    rw [Int.toNat_natCast, Int.fdiv_eq_ediv_of_nonneg _ (by have := Int.pow_pos (n := 2) (m := b) (by decide); lia), Int.natCast_ediv, Int.natCast_pow]; rfl]; exact q)
theorem bitAnd_nat (a b : Nat) : Builtin.bitAnd (a : Int) (b : Int) = ((a &&& b : Nat) : Int) := by simp [Builtin.bitAnd]
theorem bitOr_nat (a b : Nat) : Builtin.bitOr (a : Int) (b : Int) = ((a ||| b : Nat) : Int) := by
  have h1 : ¬ (0 ≤ -(a : Int) - 1) := by lia
  have h2 : ¬ (0 ≤ -(b : Int) - 1) := by lia
  have e1 : (-(-(a : Int) - 1) - 1).toNat = a := by lia
  have e2 : (-(-(b : Int) - 1) - 1).toNat = b := by lia
  unfold Builtin.bitOr Builtin.bitAnd Builtin.bitNot
  simp only [h1, h2, decide_false, e1, e2]
  lia
/-- the low bits of a number -/
theorem and_mask {w : Nat} (q : Q (pn (a % 2 ^ w)) σ) : W2 C LocRep (binaryOp .BitAnd) (pn a) (pn (2 ^ w - 1)) σ Q := and_ii (by rw [bitAnd_nat, Nat.and_two_pow_sub_one_eq_mod]; exact q)
theorem or_low {k : Nat} (h : a < 2 ^ k) : a ||| b * 2 ^ k = a + b * 2 ^ k := by
  rw [Nat.or_comm, Nat.mul_comm b, ← Nat.two_pow_add_eq_or_of_lt h, Nat.add_comm]
theorem or_nn {k : Nat} (h : a < 2 ^ k) (q : Q (pn (a + b * 2 ^ k)) σ) : W2 C LocRep (binaryOp .BitOr) (pn a) (pn (b * 2 ^ k)) σ Q := or_ii (by rw [bitOr_nat, or_low h]; exact q)
theorem ior_nn {k : Nat} (h : a < 2 ^ k) (q : Q (pn (a + b * 2 ^ k)) σ) : W2 C LocRep (inplaceOp .BitOr) (pn a) (pn (b * 2 ^ k)) σ Q := ior_ii (by rw [bitOr_nat, or_low h]; exact q)
theorem orh_nn {k : Nat} (h : a < 2 ^ k) (q : Q (pn (b * 2 ^ k + a)) σ) : W2 C LocRep (binaryOp .BitOr) (pn (b * 2 ^ k)) (pn a) σ Q := or_ii (by rw [bitOr_nat, Nat.or_comm, or_low h, Nat.add_comm]; exact q)
theorem div_nn (h0 : 0 < b) (h : b < 2 ^ 29) (q : Q (pn (a / b)) σ) : W2 C LocRep (binaryOp .FloorDiv) (pn a) (pn b) σ Q := div_ii (by lia) (PyProof.noPylong_small (by rw [Int.natAbs_natCast]; exact Nat.lt_trans h (by decide))) (by
  rw [show ((a : Int).fdiv b) = ((a / b : Nat) : Int) by rw [Int.fdiv_eq_ediv_of_nonneg _ (Int.natCast_nonneg b), Int.natCast_ediv]]; exact q)
theorem fmod_nn (a b : Nat) : ((a : Int).fmod b) = ((a % b : Nat) : Int) := by rw [Int.fmod_eq_emod_of_nonneg _ (Int.natCast_nonneg b), Int.natCast_emod]
theorem mod_nn (h0 : 0 < b) (q : Q (pn (a % b)) σ) : W2 C LocRep (binaryOp .Mod) (pn a) (pn b) σ Q := mod_ii (by lia) (by rw [fmod_nn]; exact q)
theorem imod_nn (h0 : 0 < b) (q : Q (pn (a % b)) σ) : W2 C LocRep (inplaceOp .Mod) (pn a) (pn b) σ Q := imod_ii (by lia) (by rw [fmod_nn]; exact q)
end

/-- `2 ** b` -/
theorem pow_nn {b : Nat} {Q : Loc → St → Prop} (h : b ≤ 1000000) (q : Q (pn (2 ^ b)) σ) : W2 C LocRep (binaryOp .Pow) (pn 2) (pn b) σ Q := w2_int (c := ((2 ^ b : Nat) : Int)) (fun A E s t u Q' hh hq => by
  refine pow_int_small (Int.natCast_nonneg b) (by lia) (by decide) ?_
  rw [Int.toNat_natCast, show (((2 : Nat) : Int) ^ b) = ((2 ^ b : Nat) : Int) by rw [Int.natCast_pow]]
  exact hq _ _) q

/-! what a call goes to -/
section
variable {args : List Expr} {pos : Pos} {Q : Loc → St → Prop}
theorem k_ref {a : Addr} (hk : keepIn C.K (.ref a) = true) (h : WL C args pos σ fun rs σ₂ => WCall C (.ref a) rs σ₂ Q) : CallK C (.pv (.ref a)) args pos σ Q := .inl ⟨a, rfl, hk, h⟩
theorem k_bi {id : String} (h : WL C args pos σ fun rs σ₂ => WCall C (.builtin id) rs σ₂ Q) : CallK C (.pv (.bi id)) args pos σ Q := .inr (.inl ⟨id, rfl, h⟩)
theorem k_ty {T : String} (h : WL C args pos σ fun rs σ₂ => WCall C (.type T) rs σ₂ Q) : CallK C (.pv (.ty T)) args pos σ Q := .inr (.inr ⟨T, rfl, h⟩)
end

/-! built-in names -/
section
variable {pos : Pos} {Q : Loc → St → Prop}
theorem b_any0 (P : Prg C.K ad) (x : String) (hm : x ∈ ["len", "range", "min", "any", "enumerate", "zip", "abs", "int", "sum"]) {v : Value} {p : PV} (hv : bootBuiltins (Str.ofString x) = some v) (hp : ∀ V : View, Rep V p v) (q : Q (.pv p) σ) (hk : C.env.scope.kind = .function) (hx : C.env.kindOf (Str.ofString x) = some .globalImplicit)
    (hgl : C.env.globals = mainGlobals) (hbl : C.env.builtins = builtinsNs) (hd : (Str.ofString x == ("__debug__" : Str)) = false) (hn : Str.ofString x ≠ "__name__") : WE C (.Name (Str.ofString x) pos) σ Q :=
  e_builtin (P.bi x hm) hv hp q hk hx hgl hbl hd hn
theorem b_len (P : Prg C.K ad) (q : Q (.pv (.bi "len")) σ) (hk : C.env.scope.kind = .function := by with_unfolding_all rfl) (hx : C.env.kindOf (Str.ofString "len") = some .globalImplicit := by with_unfolding_all rfl) (hgl : C.env.globals = mainGlobals := by with_unfolding_all rfl) (hbl : C.env.builtins = builtinsNs := by with_unfolding_all rfl) : WE C (.Name (Str.ofString "len") pos) σ Q :=
  b_any0 P "len" (by decide) rfl (fun V => by simp only [Rep]; rfl) q hk hx hgl hbl (by decide) (by decide)
theorem b_range (P : Prg C.K ad) (q : Q (.pv (.ty "range")) σ) (hk : C.env.scope.kind = .function := by with_unfolding_all rfl) (hx : C.env.kindOf (Str.ofString "range") = some .globalImplicit := by with_unfolding_all rfl) (hgl : C.env.globals = mainGlobals := by with_unfolding_all rfl) (hbl : C.env.builtins = builtinsNs := by with_unfolding_all rfl) : WE C (.Name (Str.ofString "range") pos) σ Q :=
  b_any0 P "range" (by decide) rfl (fun V => by simp only [Rep]; rfl) q hk hx hgl hbl (by decide) (by decide)
theorem b_min (P : Prg C.K ad) (q : Q (.pv (.bi "min")) σ) (hk : C.env.scope.kind = .function := by with_unfolding_all rfl) (hx : C.env.kindOf (Str.ofString "min") = some .globalImplicit := by with_unfolding_all rfl) (hgl : C.env.globals = mainGlobals := by with_unfolding_all rfl) (hbl : C.env.builtins = builtinsNs := by with_unfolding_all rfl) : WE C (.Name (Str.ofString "min") pos) σ Q :=
  b_any0 P "min" (by decide) rfl (fun V => by simp only [Rep]; rfl) q hk hx hgl hbl (by decide) (by decide)
theorem b_any (P : Prg C.K ad) (q : Q (.pv (.bi "any")) σ) (hk : C.env.scope.kind = .function := by with_unfolding_all rfl) (hx : C.env.kindOf (Str.ofString "any") = some .globalImplicit := by with_unfolding_all rfl) (hgl : C.env.globals = mainGlobals := by with_unfolding_all rfl) (hbl : C.env.builtins = builtinsNs := by with_unfolding_all rfl) : WE C (.Name (Str.ofString "any") pos) σ Q :=
  b_any0 P "any" (by decide) rfl (fun V => by simp only [Rep]; rfl) q hk hx hgl hbl (by decide) (by decide)
theorem b_enumerate (P : Prg C.K ad) (q : Q (.pv (.ty "enumerate")) σ) (hk : C.env.scope.kind = .function := by with_unfolding_all rfl) (hx : C.env.kindOf (Str.ofString "enumerate") = some .globalImplicit := by with_unfolding_all rfl) (hgl : C.env.globals = mainGlobals := by with_unfolding_all rfl) (hbl : C.env.builtins = builtinsNs := by with_unfolding_all rfl) : WE C (.Name (Str.ofString "enumerate") pos) σ Q :=
  b_any0 P "enumerate" (by decide) rfl (fun V => by simp only [Rep]; rfl) q hk hx hgl hbl (by decide) (by decide)
theorem b_zip (P : Prg C.K ad) (q : Q (.pv (.ty "zip")) σ) (hk : C.env.scope.kind = .function := by with_unfolding_all rfl) (hx : C.env.kindOf (Str.ofString "zip") = some .globalImplicit := by with_unfolding_all rfl) (hgl : C.env.globals = mainGlobals := by with_unfolding_all rfl) (hbl : C.env.builtins = builtinsNs := by with_unfolding_all rfl) : WE C (.Name (Str.ofString "zip") pos) σ Q :=
  b_any0 P "zip" (by decide) rfl (fun V => by simp only [Rep]; rfl) q hk hx hgl hbl (by decide) (by decide)
theorem b_abs (P : Prg C.K ad) (q : Q (.pv (.bi "abs")) σ) (hk : C.env.scope.kind = .function := by with_unfolding_all rfl) (hx : C.env.kindOf (Str.ofString "abs") = some .globalImplicit := by with_unfolding_all rfl) (hgl : C.env.globals = mainGlobals := by with_unfolding_all rfl) (hbl : C.env.builtins = builtinsNs := by with_unfolding_all rfl) : WE C (.Name (Str.ofString "abs") pos) σ Q :=
  b_any0 P "abs" (by decide) rfl (fun V => by simp only [Rep]; rfl) q hk hx hgl hbl (by decide) (by decide)
theorem b_int (P : Prg C.K ad) (q : Q (.pv (.ty "int")) σ) (hk : C.env.scope.kind = .function := by with_unfolding_all rfl) (hx : C.env.kindOf (Str.ofString "int") = some .globalImplicit := by with_unfolding_all rfl) (hgl : C.env.globals = mainGlobals := by with_unfolding_all rfl) (hbl : C.env.builtins = builtinsNs := by with_unfolding_all rfl) : WE C (.Name (Str.ofString "int") pos) σ Q :=
  b_any0 P "int" (by decide) rfl (fun V => by simp only [Rep]; rfl) q hk hx hgl hbl (by decide) (by decide)
theorem b_sum (P : Prg C.K ad) (q : Q (.pv (.bi "sum")) σ) (hk : C.env.scope.kind = .function := by with_unfolding_all rfl) (hx : C.env.kindOf (Str.ofString "sum") = some .globalImplicit := by with_unfolding_all rfl) (hgl : C.env.globals = mainGlobals := by with_unfolding_all rfl) (hbl : C.env.builtins = builtinsNs := by with_unfolding_all rfl) : WE C (.Name (Str.ofString "sum") pos) σ Q :=
  b_any0 P "sum" (by decide) rfl (fun V => by simp only [Rep]; rfl) q hk hx hgl hbl (by decide) (by decide)
end
end

/-! at a def's entry -/
theorem len1 {α : Type} {l : List α} (h : l.length = 1) : ∃ a, l = [a] := match l, h with | [a], _ => ⟨a, rfl⟩
theorem len2 {α : Type} {l : List α} (h : l.length = 2) : ∃ a b, l = [a, b] := match l, h with | [a, b], _ => ⟨a, b, rfl⟩
theorem len3 {α : Type} {l : List α} (h : l.length = 3) : ∃ a b c, l = [a, b, c] := match l, h with | [a, b, c], _ => ⟨a, b, c, rfl⟩
theorem len4 {α : Type} {l : List α} (h : l.length = 4) : ∃ a b c d, l = [a, b, c, d] := match l, h with | [a, b, c, d], _ => ⟨a, b, c, d, rfl⟩
theorem len5 {α : Type} {l : List α} (h : l.length = 5) : ∃ a b c d e, l = [a, b, c, d, e] := match l, h with | [a, b, c, d, e], _ => ⟨a, b, c, d, e, rfl⟩
theorem kinds_ok {scope : Scope} {names : List Str} (h : ∀ n, names.all (fun x => scope.names.lookup x == some .local || (scope.names.lookup x == some .cell && ((cellsFrom n scope.names []).lookup x).isSome)) = true) :
    ∀ n, ∀ x ∈ names, scope.names.lookup x = some .local ∨ (scope.names.lookup x = some .cell ∧ ((cellsFrom n scope.names []).lookup x).isSome = true) := fun n x hx => by
  have := List.all_eq_true.mp (h n) x hx
  have hf : ∀ (o : Option NameKind) k, (o == some k) = true → o = some k := fun o k e => by
    cases o with
    | none => cases e
    | some k' => cases k' <;> cases k <;> first | rfl | cases e
  simp only [Bool.or_eq_true, Bool.and_eq_true] at this
  exact this.imp (hf _ _) fun ⟨a, b⟩ => ⟨hf _ _ a, b⟩

end CR
namespace CR
open PySem PySem.W PyProof.Rows

abbrev pnat (n : Nat) : PV := .int (n : Int)
abbrev row (xs : List Nat) : PV := .list (xs.map pnat)
abbrev Nm (s : String) : Str := Str.ofString s

section
variable {C : Cx} {σ : St} {K : Frag} {ad : Nat → Addr}

theorem Prg.keep (P : Prg K ad) {i : Nat} (h : i ∈ [4, 5, 6, 7, 8, 9, 10, 12, 13, 14, 15, 16, 17, 18, 19, 20, 22, 23, 24, 25, 26, 27, 28, 30, 31, 32, 33, 34, 35, 36, 37, 38]) : keepIn K (.ref (ad i)) = true := (P.fn i h).keep
theorem g_normal (P : Prg K ad) : nsIn K mainGlobals (Str.ofString "normal") = some (some (.ref (ad 4))) := P.gl 4 (by decide)
theorem g_compare (P : Prg K ad) : nsIn K mainGlobals (Str.ofString "compare") = some (some (.ref (ad 5))) := P.gl 5 (by decide)
theorem g_add (P : Prg K ad) : nsIn K mainGlobals (Str.ofString "add") = some (some (.ref (ad 6))) := P.gl 6 (by decide)
theorem g_divrem_limb (P : Prg K ad) : nsIn K mainGlobals (Str.ofString "divrem_limb") = some (some (.ref (ad 7))) := P.gl 7 (by decide)
theorem g_shift_left (P : Prg K ad) : nsIn K mainGlobals (Str.ofString "shift_left") = some (some (.ref (ad 8))) := P.gl 8 (by decide)
theorem g_shift_right (P : Prg K ad) : nsIn K mainGlobals (Str.ofString "shift_right") = some (some (.ref (ad 9))) := P.gl 9 (by decide)
theorem g_bits (P : Prg K ad) : nsIn K mainGlobals (Str.ofString "bits") = some (some (.ref (ad 10))) := P.gl 10 (by decide)
theorem g_product (P : Prg K ad) : nsIn K mainGlobals (Str.ofString "product") = some (some (.ref (ad 12))) := P.gl 12 (by decide)
theorem g_level_above (P : Prg K ad) : nsIn K mainGlobals (Str.ofString "level_above") = some (some (.ref (ad 13))) := P.gl 13 (by decide)
theorem g_product_tree (P : Prg K ad) : nsIn K mainGlobals (Str.ofString "product_tree") = some (some (.ref (ad 14))) := P.gl 14 (by decide)
theorem g_remainder_tree (P : Prg K ad) : nsIn K mainGlobals (Str.ofString "remainder_tree") = some (some (.ref (ad 15))) := P.gl 15 (by decide)
theorem g_sum_of_products (P : Prg K ad) : nsIn K mainGlobals (Str.ofString "sum_of_products") = some (some (.ref (ad 16))) := P.gl 16 (by decide)
theorem g_crossed_above (P : Prg K ad) : nsIn K mainGlobals (Str.ofString "crossed_above") = some (some (.ref (ad 17))) := P.gl 17 (by decide)
theorem g_crossed (P : Prg K ad) : nsIn K mainGlobals (Str.ofString "crossed") = some (some (.ref (ad 18))) := P.gl 18 (by decide)
theorem g_chinese (P : Prg K ad) : nsIn K mainGlobals (Str.ofString "chinese") = some (some (.ref (ad 19))) := P.gl 19 (by decide)
theorem g_pairwise_apart (P : Prg K ad) : nsIn K mainGlobals (Str.ofString "pairwise_apart") = some (some (.ref (ad 20))) := P.gl 20 (by decide)
theorem g_mul_school (P : Prg K ad) : nsIn K mainGlobals (Str.ofString "mul_school") = some (some (.ref (ad 22))) := P.gl 22 (by decide)
theorem g_divrem_small (P : Prg K ad) : nsIn K mainGlobals (Str.ofString "divrem_small") = some (some (.ref (ad 23))) := P.gl 23 (by decide)
theorem g_guessed_limb (P : Prg K ad) : nsIn K mainGlobals (Str.ofString "guessed_limb") = some (some (.ref (ad 24))) := P.gl 24 (by decide)
theorem g_take_away (P : Prg K ad) : nsIn K mainGlobals (Str.ofString "take_away") = some (some (.ref (ad 25))) := P.gl 25 (by decide)
theorem g_put_back (P : Prg K ad) : nsIn K mainGlobals (Str.ofString "put_back") = some (some (.ref (ad 26))) := P.gl 26 (by decide)
theorem g_divide_rows (P : Prg K ad) : nsIn K mainGlobals (Str.ofString "divide_rows") = some (some (.ref (ad 27))) := P.gl 27 (by decide)
theorem g_divrem_school (P : Prg K ad) : nsIn K mainGlobals (Str.ofString "divrem_school") = some (some (.ref (ad 28))) := P.gl 28 (by decide)
theorem g_law_deal (P : Prg K ad) : nsIn K mainGlobals (Str.ofString "_law_deal") = some (some (.ref (ad 30))) := P.gl 30 (by decide)
theorem g_law_take (P : Prg K ad) : nsIn K mainGlobals (Str.ofString "_law_take") = some (some (.ref (ad 31))) := P.gl 31 (by decide)
theorem g_law_great (P : Prg K ad) : nsIn K mainGlobals (Str.ofString "_law_great") = some (some (.ref (ad 32))) := P.gl 32 (by decide)
theorem g_law_row (P : Prg K ad) : nsIn K mainGlobals (Str.ofString "_law_row") = some (some (.ref (ad 33))) := P.gl 33 (by decide)
theorem g_law_value (P : Prg K ad) : nsIn K mainGlobals (Str.ofString "_law_value") = some (some (.ref (ad 34))) := P.gl 34 (by decide)
theorem g_law_inverse (P : Prg K ad) : nsIn K mainGlobals (Str.ofString "_law_inverse") = some (some (.ref (ad 35))) := P.gl 35 (by decide)
theorem g_law_divisor (P : Prg K ad) : nsIn K mainGlobals (Str.ofString "_law_divisor") = some (some (.ref (ad 36))) := P.gl 36 (by decide)
theorem g_law_refused (P : Prg K ad) : nsIn K mainGlobals (Str.ofString "_law_refused") = some (some (.ref (ad 37))) := P.gl 37 (by decide)

theorem e_neg1 {k : Nat} {p pos : Pos} {Q : Loc → St → Prop} (q : Q (.pv (.int (-1))) σ) : WE C (.UnaryOp .USub (.Constant (.int 1) k p) pos) σ Q := e_un (e_int (neg_i q))

section
variable {α : Type} {f : α → PV} {xs ys : List α} {a b : Loc} {value slice : Expr} {Q : Loc → St → Prop}
theorem ix_n {i : Nat} {x : α} (hl : Lis σ a (xs.map f)) (hx : xs[i]? = some x) (hi : i < 1000000000) (q : Q (.pv (f x)) σ)
    (hs : ∀ o i, subscripted slice false o i = operate [o, i] (getItem o i) := by intro _ _; with_unfolding_all rfl) : W2 C LocRep (subscriptTail value slice) a (pn i) σ Q :=
  ix_list hl (Int.natCast_nonneg i) (by lia) (by rw [Int.toNat_natCast, List.getElem?_map, hx]; rfl) q hs
theorem ixl_n {x : α} (hl : Lis σ a (xs.map f)) (hx : xs.getLast? = some x) (hz : xs.length ≤ 1000000) (q : Q (.pv (f x)) σ)
    (hs : ∀ o i, subscripted slice false o i = operate [o, i] (getItem o i) := by intro _ _; with_unfolding_all rfl) : W2 C LocRep (subscriptTail value slice) a (.pv (.int (-1))) σ Q :=
  ix_last hl (by rw [List.getLast?_map, hx]; rfl) (by rw [List.length_map]; exact hz) q hs
theorem len_n (hl : Lis σ a (xs.map f)) (hz : xs.length ≤ 1000000) (q : Q (pn xs.length) σ) : WCall C (.builtin "len") [a] σ Q := f_len hl (by rw [List.length_map]; exact hz) (by rw [List.length_map]; exact q)
theorem min_nn {m n : Nat} (q : Q (pn (min m n)) σ) : WCall C (.builtin "min") [pn m, pn n] σ Q := f_min (by
  rw [show (if (n : Int) < (m : Int) then (n : Int) else (m : Int)) = ((min m n : Nat) : Int) by split <;> lia]; exact q)
theorem add_ll_n (ha : Lis σ a (xs.map f)) (hb : Lis σ b (ys.map f)) (hz : xs.length + ys.length ≤ 1000000) (hq : New σ ((xs ++ ys).map f) Q) : W2 C LocRep (binaryOp .Add) a b σ Q :=
  add_ll ha hb (by rw [List.length_map, List.length_map]; exact hz) (by rw [← List.map_append]; exact hq)
theorem mul_zero {n : Nat} (hz : n ≤ 1000000) (hq : New σ ((List.replicate n 0).map pnat) Q) : W2 C LocRep (binaryOp .Mult) (.pv (.list [pnat 0])) (pn n) σ Q :=
  mul_li (x := pnat 0) rfl (Int.natCast_nonneg n) (by lia) (by rw [Int.toNat_natCast]; rw [List.map_replicate] at hq; exact hq)
section
variable {lo up st : Option Expr} {ps : Pos}
theorem sln_all (hl : Lis σ a (xs.map f)) (hz : xs.length ≤ 1000000) (hq : New σ (xs.map f) Q) (hs : ∀ o i, subscripted (.Slice lo up st ps) false o i = operate [i, o] (getItem o i) ∨ subscripted (.Slice lo up st ps) false o i = operate [o, i] (getItem o i) := by intro _ _; first | exact .inl (by with_unfolding_all rfl) | exact .inr (by with_unfolding_all rfl)) : SliceW C value (.Slice lo up st ps) a none none none σ Q :=
  sl_all hl (by rw [List.length_map]; exact hz) hq hs
theorem sln_upto {n : Nat} (hl : Lis σ a (xs.map f)) (hz : xs.length ≤ 1000000) (hq : New σ ((xs.take n).map f) Q) (hs : ∀ o i, subscripted (.Slice lo up st ps) false o i = operate [i, o] (getItem o i) ∨ subscripted (.Slice lo up st ps) false o i = operate [o, i] (getItem o i) := by intro _ _; first | exact .inl (by with_unfolding_all rfl) | exact .inr (by with_unfolding_all rfl)) : SliceW C value (.Slice lo up st ps) a none (some (n : Int)) none σ Q :=
  sl_upto hl (Int.natCast_nonneg n) (by rw [List.length_map]; exact hz) (by rw [Int.toNat_natCast, ← List.map_take]; exact hq) hs
theorem sln_from {n : Nat} (hl : Lis σ a (xs.map f)) (hz : xs.length ≤ 1000000) (hq : New σ ((xs.drop n).map f) Q) (hs : ∀ o i, subscripted (.Slice lo up st ps) false o i = operate [i, o] (getItem o i) ∨ subscripted (.Slice lo up st ps) false o i = operate [o, i] (getItem o i) := by intro _ _; first | exact .inl (by with_unfolding_all rfl) | exact .inr (by with_unfolding_all rfl)) : SliceW C value (.Slice lo up st ps) a (some (n : Int)) none none σ Q :=
  sl_from hl (Int.natCast_nonneg n) (by rw [List.length_map]; exact hz) (by rw [Int.toNat_natCast, ← List.map_drop]; exact hq) hs
theorem sln_mid {m n : Nat} (hl : Lis σ a (xs.map f)) (hm : m ≤ n) (hn : n ≤ xs.length) (hz : xs.length ≤ 1000000) (hq : New σ (((xs.drop m).take (n - m)).map f) Q) (hs : ∀ o i, subscripted (.Slice lo up st ps) false o i = operate [i, o] (getItem o i) ∨ subscripted (.Slice lo up st ps) false o i = operate [o, i] (getItem o i) := by intro _ _; first | exact .inl (by with_unfolding_all rfl) | exact .inr (by with_unfolding_all rfl)) : SliceW C value (.Slice lo up st ps) a (some (m : Int)) (some (n : Int)) none σ Q :=
  sl_mid hl (Int.natCast_nonneg m) (by lia) (by rw [List.length_map]; lia) (by rw [List.length_map]; exact hz) (by rw [Int.toNat_natCast, Int.toNat_natCast, ← List.map_drop, ← List.map_take]; exact hq) hs
theorem sln_butlast (hl : Lis σ a (xs.map f)) (hz : xs.length ≤ 1000000) (hq : New σ ((xs.take (xs.length - 1)).map f) Q) (hs : ∀ o i, subscripted (.Slice lo up st ps) false o i = operate [i, o] (getItem o i) ∨ subscripted (.Slice lo up st ps) false o i = operate [o, i] (getItem o i) := by intro _ _; first | exact .inl (by with_unfolding_all rfl) | exact .inr (by with_unfolding_all rfl)) : SliceW C value (.Slice lo up st ps) a none (some (-1)) none σ Q :=
  sl_butlast hl (by rw [List.length_map]; exact hz) (by rw [List.length_map, ← List.map_take]; exact hq) hs
theorem sln_rev (hl : Lis σ a (xs.map f)) (hz : xs.length ≤ 1000000) (hq : New σ (xs.reverse.map f) Q) (hs : ∀ o i, subscripted (.Slice lo up st ps) false o i = operate [i, o] (getItem o i) ∨ subscripted (.Slice lo up st ps) false o i = operate [o, i] (getItem o i) := by intro _ _; first | exact .inl (by with_unfolding_all rfl) | exact .inr (by with_unfolding_all rfl)) : SliceW C value (.Slice lo up st ps) a none none (some (-1)) σ Q :=
  sl_rev hl (by rw [List.length_map]; exact hz) (by rw [← List.map_reverse]; exact hq) hs
end
end

/-! what follows a statement -/
def Then (C : Cx) (rest : List Stmt) (Q : RF → St → Prop) : RF → St → Prop
  | .next, σ => WB C rest σ Q
  | f, σ => Q f σ
section
variable {st : Stmt} {rest : List Stmt} {Q : RF → St → Prop} {N : St → Prop} {l : Loc}
theorem b_then (h : WS C st σ (Then C rest Q)) : WB C (st :: rest) σ Q := b_cons (W.mono h fun f σ₁ h => by cases f <;> exact h)
theorem b_ret {e : Option Expr} {p : Pos} (h : WS C (.Return e p) σ (Then C rest Q)) : WB C (.Return e p :: rest) σ Q := b_then h
theorem b_if {e : Expr} {b o : List Stmt} {p : Pos} (h : WS C (.If e b o p) σ (Then C rest Q)) : WB C (.If e b o p :: rest) σ Q := b_then h
theorem b_continue {p : Pos} (h : WS C (.Continue p) σ (Then C rest Q)) : WB C (.Continue p :: rest) σ Q := b_then h
theorem b_for {t i : Expr} {b o : List Stmt} {p : Pos} (h : WS C (.For t i b o p) σ (Then C rest Q)) : WB C (.For t i b o p :: rest) σ Q := b_then h
theorem b_while {t : Expr} {b o : List Stmt} {p : Pos} (h : WS C (.While t b o p) σ (Then C rest Q)) : WB C (.While t b o p :: rest) σ Q := b_then h
theorem sto_loc {x : Str} (h : C.env.scope.kind = .function) (h' : C.env.kindOf x = some .local) : Storable C x := ⟨h, .inl h'⟩
theorem sto_cell {x : Str} (h : C.env.scope.kind = .function) (hc : C.bs.cellsOwn = true) (h' : C.env.kindOf x = some .cell) (h2 : (C.env.cells.lookup x).isSome = true) : Storable C x := ⟨h, .inr ⟨hc, h', h2⟩⟩
theorem as_consm {t : Expr} {es : List Expr} {x : PV} {xs : List PV} {N : St → Prop} (h : WAsg C t (.pv x) σ fun σ₁ => WAsgs C es (xs.map Loc.pv) σ₁ N) (he : assignEach (t :: es) C.env = (false, assign t C.env) :: assignEach es C.env := by with_unfolding_all rfl) : WAsgs C (t :: es) ((x :: xs).map Loc.pv) σ N := as_cons h he
theorem as_nilm {N : St → Prop} (q : N σ) : WAsgs C [] (([] : List PV).map Loc.pv) σ N := as_nil q
def Mid (M : St → Prop) (σ : St) : Prop := M σ
theorem b_mid (M : St → Prop) (h : WS C st σ fun f σ₁ => f = .next ∧ Mid M σ₁) (h2 : ∀ σ₁, M σ₁ → WB C rest σ₁ Q) : WB C (st :: rest) σ Q := b_next (W.mono h fun f σ₁ ⟨e, m⟩ => ⟨e, h2 σ₁ m⟩)
theorem then_next (h : WB C rest σ Q) : Then C rest Q .next σ := h
theorem then_ret (h : Q (.ret l) σ) : Then C rest Q (.ret l) σ := h
theorem then_cont (h : Q .cont σ) : Then C rest Q .cont σ := h
theorem loop_next (h : ∃ σ', Less σ σ' ∧ N σ') : LoopQ Q N .next σ := h
theorem loop_cont (h : ∃ σ', Less σ σ' ∧ N σ') : LoopQ Q N .cont σ := h
theorem loop_ret (h : Q (.ret l) σ) : LoopQ Q N (.ret l) σ := h
end
theorem ite_t {c P Q : Prop} [Decidable c] (h : c) (p : P) : if decide c = true then P else Q := by rw [if_pos (decide_eq_true h)]; exact p
theorem ite_f {c P Q : Prop} [Decidable c] (h : ¬ c) (p : Q) : if decide c = true then P else Q := by rw [if_neg (by rw [decide_eq_false h]; decide)]; exact p
theorem ite_d {c P Q : Prop} [Decidable c] (h : c → P) (h' : ¬ c → Q) : if decide c = true then P else Q := if x : c then ite_t x (h x) else ite_f x (h' x)
theorem ite_tt {P Q : Prop} (p : P) : if true = true then P else Q := by rw [if_pos rfl]; exact p
theorem ite_ff {P Q : Prop} (p : Q) : if false = true then P else Q := by rw [if_neg (by decide)]; exact p
theorem ite_ntt {P Q : Prop} (p : Q) : if (!true) = true then P else Q := by rw [if_neg (by decide)]; exact p
theorem ite_nff {P Q : Prop} (p : P) : if (!false) = true then P else Q := by rw [if_pos (by decide)]; exact p
theorem ite_nt {c P Q : Prop} [Decidable c] (h : c) (p : Q) : if (!decide c) = true then P else Q := by rw [if_neg (by simp [h])]; exact p
theorem ite_nf {c P Q : Prop} [Decidable c] (h : ¬ c) (p : P) : if (!decide c) = true then P else Q := by rw [if_pos (by simp [h])]; exact p

/-! the same rules, one premise each -/
section
variable {Q : Loc → St → Prop} {R : RF → St → Prop}
structure Sto (C : Cx) (x : Str) (P : Prop) : Prop where
  s : Storable C x
  p : P
theorem sto_l {x : Str} {P : Prop} (p : P) (h : C.env.scope.kind = .function := by with_unfolding_all rfl) (h' : C.env.kindOf x = some .local := by with_unfolding_all rfl) : Sto C x P := ⟨sto_loc h h', p⟩
theorem sto_c {x : Str} {P : Prop} (hc : C.bs.cellsOwn = true) (p : P) (h : C.env.scope.kind = .function := by with_unfolding_all rfl) (h' : C.env.kindOf x = some .cell := by with_unfolding_all rfl) (h2 : (C.env.cells.lookup x).isSome = true := by with_unfolding_all rfl) : Sto C x P := ⟨sto_cell h hc h' h2, p⟩
def OwnQ (r : Loc) (P : Nat → Prop) : Prop := ∃ k, r = .own k ∧ P k
theorem own_q {k : Nat} {P : Nat → Prop} (h : P k) : OwnQ (.own k) P := ⟨k, rfl, h⟩
def PushQ (σ : St) (k : Nat) (a : Loc) (P : St → Prop) : Prop := ∃ p ys, a = .pv p ∧ σ.O[k]? = some (some ys) ∧ ys.length < 1000000 ∧ P (σ.setO k (some (ys ++ [p])))
theorem push_f {α : Type} (f : α → PV) {k : Nat} {ys : List α} {y : α} {P : St → Prop} (h1 : σ.O[k]? = some (some (ys.map f))) (h2 : ys.length < 1000000) (q : P (σ.setO k (some ((ys ++ [y]).map f)))) : PushQ σ k (.pv (f y)) P :=
  ⟨f y, ys.map f, rfl, h1, by rw [List.length_map]; exact h2, by rw [List.map_append] at q; exact q⟩
theorem push_p {k y : Nat} {P : St → Prop} (h : ∃ ys : List Nat, σ.O[k]? = some (some (ys.map pnat)) ∧ ys.length < 1000000 ∧ P (σ.setO k (some ((ys ++ [y]).map pnat)))) : PushQ σ k (pn y) P := let ⟨_, h1, h2, q⟩ := h; push_f pnat h1 h2 q
def SetQ (σ : St) (k n : Nat) (a : Loc) (P : St → Prop) : Prop := ∃ p xs, a = .pv p ∧ σ.O[k]? = some (some xs) ∧ n < xs.length ∧ n < 1000000 ∧ P (σ.setO k (some (xs.set n p)))
theorem set_p {k n y : Nat} {P : St → Prop} (h : ∃ ys : List Nat, σ.O[k]? = some (some (ys.map pnat)) ∧ n < ys.length ∧ n < 1000000 ∧ P (σ.setO k (some ((ys.set n y).map pnat)))) : SetQ σ k n (pn y) P := by
  obtain ⟨ys, h1, h2, h3, q⟩ := h
  exact ⟨pnat y, ys.map pnat, rfl, h1, by rw [List.length_map]; exact h2, h3, by rw [List.map_set] at q; exact q⟩
theorem set_d {k n : Nat} {d : PV} {ys : List PV} {P : St → Prop} (h1 : σ.O[k]? = some (some ys)) (h2 : n < ys.length) (h3 : n < 1000000) (q : P (σ.setO k (some (ys.set n d)))) : SetQ σ k n (.pv d) P := ⟨d, ys, rfl, h1, h2, h3, q⟩
theorem x_append {o e : Expr} {apos pos : Pos} (h : WE C o σ fun r σ₁ => OwnQ r fun k => (∃ xs, σ₁.O[k]? = some (some xs)) ∧ WE C e σ₁ fun a σ₂ => PushQ σ₂ k a fun σ₃ => Q (.pv .none) σ₃)
    (hbase : attributeBase o (Str.ofString "append") C.env (eval o C.env) = eval o C.env := by with_unfolding_all rfl) (hfew : fewArgs C [e] pos := by with_unfolding_all rfl)
    (hline : (apos.endLine == pos.line) = true := by with_unfolding_all rfl) (he : backTo pos (starEach [e] C.env) = [(false, eval e C.env)] := by with_unfolding_all rfl) : WE C (.Call (.Attribute o (Str.ofString "append") apos) [e] [] pos) σ Q :=
  e_append (W.mono h fun r σ₁ ⟨k, er, ⟨xs, hx⟩, h⟩ => ⟨k, xs, er, hx, W.mono h fun a σ₂ ⟨p, ys, e1, e2, e3, q⟩ => ⟨p, ys, e1, e2, e3, q⟩⟩) hbase hfew hline he
theorem x_setitem {o i value : Expr} {p' pos : Pos} (h : WE C value σ fun a σ₁ => (∃ p, a = .pv p) ∧ WE C o σ₁ fun r σ₂ => WE C i σ₂ fun j σ₃ => OwnQ r fun k => ∃ n, j = pn n ∧ SetQ σ₃ k n a fun σ₄ => R .next σ₄)
    (hs : swapsWith value (some (.Subscript o i p')) pos.line C.env = pure false := by with_unfolding_all rfl) : WS C (.Assign [.Subscript o i p'] value pos) σ R :=
  s_setitem (W.mono h fun a σ₁ ⟨⟨p, e⟩, h⟩ => ⟨p, e, W.mono h fun r σ₂ h => W.mono h fun j σ₃ ⟨k, er, n, ej, p', xs, ep, h1, h2, h3, q⟩ => by
    subst e; cases ep
    exact ⟨k, n, xs, er, ej, h1, h2, h3, q⟩⟩) hs
theorem x_name {x : Str} {pos : Pos} (h : ∃ l, σ.ρ.lookup x = some l ∧ Q l σ) (hk : C.env.scope.kind = .function := by with_unfolding_all rfl) (hd : (x == ("__debug__" : Str)) = false := by with_unfolding_all rfl) (hc : (x == ("__classdict__" : Str)) = false := by with_unfolding_all rfl) : WE C (.Name x pos) σ Q :=
  let ⟨_, h1, h2⟩ := h; e_name h1 h2 hk hd hc
theorem x_assign {x : Str} {p' pos : Pos} {value : Expr} (h : Sto C x (WE C value σ fun r σ₁ => R .next (σ₁.put x r))) (hs : swapsWith value (some (.Name x p')) pos.line C.env = pure false := by with_unfolding_all rfl) : WS C (.Assign [.Name x p'] value pos) σ R := s_assign h.s h.p hs
theorem x_aug {x : Str} {p' pos : Pos} {op : Operator} {value : Expr} (h : Sto C x (∃ l, σ.ρ.lookup x = some l ∧ WE C value σ fun r σ₁ => W2 C LocRep (inplaceOp op) l r σ₁ fun r' σ₂ => R .next (σ₂.put x r'))) (hc : (x == ("__classdict__" : Str)) = false := by with_unfolding_all rfl) :
    WS C (.AugAssign (.Name x p') op value pos) σ R := let ⟨h1, _, h2, h3⟩ := h; s_aug h1 h2 h3 hc
theorem x_sw2 {x y : Str} {p q tpos vpos pos : Pos} {vs : List Expr} {k k' : Nat} (h : WL C vs vpos σ fun rs σ₁ => ∃ a b, rs = [a, b] ∧ Sto C x (Sto C y (R .next ((σ₁.put y b).put x a))))
    (hw : swappedStores [.Tuple [.Name x p, .Name y q] k tpos] (.Tuple vs k' vpos) C.env = pure (some [x, y]) := by with_unfolding_all rfl) (hs : swapsWithSole [.Tuple [.Name x p, .Name y q] k tpos] (.Tuple vs k' vpos) pos.line C.env = pure false := by with_unfolding_all rfl) : WS C (.Assign [.Tuple [.Name x p, .Name y q] k tpos] (.Tuple vs k' vpos) pos) σ R :=
  s_assign_sw hw (W.mono h fun rs σ₁ ⟨a, b, e, ⟨sx, sy, q⟩⟩ => by subst e; exact ⟨⟨rfl, by simp only [List.length_cons, List.length_nil]; lia⟩, n_cons sy (n_cons sx (n_nil q))⟩) hs
theorem x_sw3 {x y z : Str} {p q r tpos vpos pos : Pos} {vs : List Expr} {k k' : Nat} (h : WL C vs vpos σ fun rs σ₁ => ∃ a b c, rs = [a, b, c] ∧ Sto C x (Sto C y (Sto C z (R .next (((σ₁.put z c).put y b).put x a)))))
    (hw : swappedStores [.Tuple [.Name x p, .Name y q, .Name z r] k tpos] (.Tuple vs k' vpos) C.env = pure (some [x, y, z]) := by with_unfolding_all rfl) (hs : swapsWithSole [.Tuple [.Name x p, .Name y q, .Name z r] k tpos] (.Tuple vs k' vpos) pos.line C.env = pure false := by with_unfolding_all rfl) : WS C (.Assign [.Tuple [.Name x p, .Name y q, .Name z r] k tpos] (.Tuple vs k' vpos) pos) σ R :=
  s_assign_sw hw (W.mono h fun rs σ₁ ⟨a, b, c, e, ⟨sx, sy, sz, q⟩⟩ => by subst e; exact ⟨⟨rfl, by simp only [List.length_cons, List.length_nil]; lia⟩, n_cons sz (n_cons sy (n_cons sx (n_nil q)))⟩) hs
theorem xa_name {x : Str} {p : Pos} {r : Loc} {N : St → Prop} (h : Sto C x (N (σ.put x r))) : WAsg C (.Name x p) r σ N := a_name h.s h.p
section
variable {a b : Loc} {value slice : Expr}
theorem x_ix {i : Nat} (h : ∃ (α : Type) (f : α → PV) (xs : List α) (x : α), Lis σ a (xs.map f) ∧ xs[i]? = some x ∧ i < 1000000000 ∧ Q (.pv (f x)) σ) (hs : ∀ o i, subscripted slice false o i = operate [o, i] (getItem o i) := by intro _ _; with_unfolding_all rfl) : W2 C LocRep (subscriptTail value slice) a (pn i) σ Q :=
  let ⟨_, _, _, _, h1, h2, h3, h4⟩ := h; ix_n h1 h2 h3 h4 hs
theorem x_ixl (h : ∃ (α : Type) (f : α → PV) (xs : List α) (x : α), Lis σ a (xs.map f) ∧ xs.getLast? = some x ∧ xs.length ≤ 1000000 ∧ Q (.pv (f x)) σ) (hs : ∀ o i, subscripted slice false o i = operate [o, i] (getItem o i) := by intro _ _; with_unfolding_all rfl) : W2 C LocRep (subscriptTail value slice) a (.pv (.int (-1))) σ Q :=
  let ⟨_, _, _, _, h1, h2, h3, h4⟩ := h; ixl_n h1 h2 h3 h4 hs
theorem x_len (h : ∃ (α : Type) (f : α → PV) (xs : List α), Lis σ a (xs.map f) ∧ xs.length ≤ 1000000 ∧ Q (pn xs.length) σ) : WCall C (.builtin "len") [a] σ Q := let ⟨_, _, _, h1, h2, h3⟩ := h; len_n h1 h2 h3
theorem x_addl (h : ∃ (α : Type) (f : α → PV) (xs ys : List α), Lis σ a (xs.map f) ∧ Lis σ b (ys.map f) ∧ xs.length + ys.length ≤ 1000000 ∧ New σ ((xs ++ ys).map f) Q) : W2 C LocRep (binaryOp .Add) a b σ Q := let ⟨_, _, _, _, h1, h2, h3, h4⟩ := h; add_ll_n h1 h2 h3 h4
section
variable {lo up st : Option Expr} {ps : Pos}
theorem x_upto {n : Nat} (h : ∃ (α : Type) (f : α → PV) (xs : List α), Lis σ a (xs.map f) ∧ xs.length ≤ 1000000 ∧ New σ ((xs.take n).map f) Q) (hs : ∀ o i, subscripted (.Slice lo up st ps) false o i = operate [i, o] (getItem o i) ∨ subscripted (.Slice lo up st ps) false o i = operate [o, i] (getItem o i) := by intro _ _; first | exact .inl (by with_unfolding_all rfl) | exact .inr (by with_unfolding_all rfl)) : SliceW C value (.Slice lo up st ps) a none (some (n : Int)) none σ Q := let ⟨_, _, _, h1, h2, h3⟩ := h; sln_upto h1 h2 h3 hs
theorem x_from {n : Nat} (h : ∃ (α : Type) (f : α → PV) (xs : List α), Lis σ a (xs.map f) ∧ xs.length ≤ 1000000 ∧ New σ ((xs.drop n).map f) Q) (hs : ∀ o i, subscripted (.Slice lo up st ps) false o i = operate [i, o] (getItem o i) ∨ subscripted (.Slice lo up st ps) false o i = operate [o, i] (getItem o i) := by intro _ _; first | exact .inl (by with_unfolding_all rfl) | exact .inr (by with_unfolding_all rfl)) : SliceW C value (.Slice lo up st ps) a (some (n : Int)) none none σ Q := let ⟨_, _, _, h1, h2, h3⟩ := h; sln_from h1 h2 h3 hs
theorem x_mid {m n : Nat} (h : ∃ (α : Type) (f : α → PV) (xs : List α), Lis σ a (xs.map f) ∧ xs.length ≤ 1000000 ∧ (m ≤ n ∧ n ≤ xs.length) ∧ New σ (((xs.drop m).take (n - m)).map f) Q) (hs : ∀ o i, subscripted (.Slice lo up st ps) false o i = operate [i, o] (getItem o i) ∨ subscripted (.Slice lo up st ps) false o i = operate [o, i] (getItem o i) := by intro _ _; first | exact .inl (by with_unfolding_all rfl) | exact .inr (by with_unfolding_all rfl)) : SliceW C value (.Slice lo up st ps) a (some (m : Int)) (some (n : Int)) none σ Q := let ⟨_, _, _, h1, h2, h3, h4⟩ := h; sln_mid h1 h3.1 h3.2 h2 h4 hs
theorem x_all (h : ∃ (α : Type) (f : α → PV) (xs : List α), Lis σ a (xs.map f) ∧ xs.length ≤ 1000000 ∧ New σ (xs.map f) Q) (hs : ∀ o i, subscripted (.Slice lo up st ps) false o i = operate [i, o] (getItem o i) ∨ subscripted (.Slice lo up st ps) false o i = operate [o, i] (getItem o i) := by intro _ _; first | exact .inl (by with_unfolding_all rfl) | exact .inr (by with_unfolding_all rfl)) : SliceW C value (.Slice lo up st ps) a none none none σ Q := let ⟨_, _, _, h1, h2, h3⟩ := h; sln_all h1 h2 h3 hs
theorem x_but (h : ∃ (α : Type) (f : α → PV) (xs : List α), Lis σ a (xs.map f) ∧ xs.length ≤ 1000000 ∧ New σ ((xs.take (xs.length - 1)).map f) Q) (hs : ∀ o i, subscripted (.Slice lo up st ps) false o i = operate [i, o] (getItem o i) ∨ subscripted (.Slice lo up st ps) false o i = operate [o, i] (getItem o i) := by intro _ _; first | exact .inl (by with_unfolding_all rfl) | exact .inr (by with_unfolding_all rfl)) : SliceW C value (.Slice lo up st ps) a none (some (-1)) none σ Q := let ⟨_, _, _, h1, h2, h3⟩ := h; sln_butlast h1 h2 h3 hs
theorem x_rev (h : ∃ (α : Type) (f : α → PV) (xs : List α), Lis σ a (xs.map f) ∧ xs.length ≤ 1000000 ∧ New σ (xs.reverse.map f) Q) (hs : ∀ o i, subscripted (.Slice lo up st ps) false o i = operate [i, o] (getItem o i) ∨ subscripted (.Slice lo up st ps) false o i = operate [o, i] (getItem o i) := by intro _ _; first | exact .inl (by with_unfolding_all rfl) | exact .inr (by with_unfolding_all rfl)) : SliceW C value (.Slice lo up st ps) a none none (some (-1)) σ Q := let ⟨_, _, _, h1, h2, h3⟩ := h; sln_rev h1 h2 h3 hs
end
end
end

/-! a loop's turn ends -/
inductive Has (ρ : List (Str × Loc)) : List (Str × Loc) → Prop
  | nil : Has ρ []
  | cons {x : Str} {l : Loc} {r : List (Str × Loc)} : ρ.lookup x = some l → Has ρ r → Has ρ ((x, l) :: r)
theorem has_lookup {ρ : List (Str × Loc)} : ∀ {ρ' : List (Str × Loc)}, Has ρ ρ' → ∀ x l, ρ'.lookup x = some l → ρ.lookup x = some l
  | [], _, _, _, h => by simp at h
  | (y, m) :: r, h', x, l, h => by
    cases h' with
    | cons h1 h2 =>
      rw [List.lookup_cons] at h
      cases e : x == y with
      | true =>
        rw [e] at h; cases h
        rw [beq_iff_eq.mp e]; exact h1
      | false =>
        rw [e] at h
        exact has_lookup h2 x l h
theorem next_of {ρ' : List (Str × Loc)} {O' : List (Option (List PV))} {N : St → Prop} (h : N ⟨ρ', O'⟩) (hO : O' = σ.O := by with_unfolding_all rfl) (hρ : Has σ.ρ ρ' := by repeat (first | exact Has.nil | refine Has.cons rfl ?_)) : ∃ σ', Less σ σ' ∧ N σ' := ⟨⟨ρ', O'⟩, ⟨hO, has_lookup hρ⟩, h⟩
/-- `for x in range(..)`: the items -/
theorem range_items {n i : Nat} {a c : Int} {x : Item} (h : ((List.range n).map fun i => Item.one (.int (a + (i : Nat) * c)))[i]? = some x) : i < n ∧ x = .one (.int (a + i * c)) := by
  rw [List.getElem?_map] at h
  by_cases hi : i < n
  · rw [List.getElem?_range hi] at h
    exact ⟨hi, (Option.some.inj h).symm⟩
  · rw [List.getElem?_eq_none (by simpa using Nat.not_lt.mp hi)] at h; cases h
theorem fin_val {Q : Res → List (List PV) → Prop} {p : PV} (q : Q (.val p) []) : Fin 0 Q (.ret (.pv p)) σ := ⟨[], .val p, ⟨rfl, fun k xs h => by simp at h⟩, rfl, q⟩
theorem fin_fresh {Q : Res → List (List PV) → Prop} {k : Nat} {xs : List PV} (hk : σ.O[k]? = some (some xs)) (q : Q (.fresh xs) []) : Fin 0 Q (.ret (.own k)) σ := ⟨[], .fresh xs, ⟨rfl, fun k xs h => by simp at h⟩, ⟨xs, Nat.zero_le _, hk, rfl⟩, q⟩
theorem fin_none {Q : Res → List (List PV) → Prop} (q : Q (.val .none) []) : Fin 0 Q .next σ := ⟨[], ⟨rfl, fun k xs h => by simp at h⟩, q⟩
theorem outs1 {ys : List PV} (h : σ.O[0]? = some (some ys)) : OutsAre 1 σ [ys] := ⟨rfl, fun k xs e => by
  match k, e with
  | 0, e => simp only [List.getElem?_cons_zero, Option.some.injEq] at e; subst e; exact h
  | k + 1, e => simp at e⟩
theorem fin_val1 {Q : Res → List (List PV) → Prop} {p : PV} {ys : List PV} (h : σ.O[0]? = some (some ys)) (q : Q (.val p) [ys]) : Fin 1 Q (.ret (.pv p)) σ := ⟨[ys], .val p, outs1 h, rfl, q⟩
theorem fin_fresh1 {Q : Res → List (List PV) → Prop} {k : Nat} {xs ys : List PV} (h : σ.O[0]? = some (some ys)) (hk : σ.O[k + 1]? = some (some xs)) (q : Q (.fresh xs) [ys]) : Fin 1 Q (.ret (.own (k + 1))) σ :=
  ⟨[ys], .fresh xs, outs1 h, ⟨xs, by lia, hk, rfl⟩, q⟩
theorem fin_none1 {Q : Res → List (List PV) → Prop} {ys : List PV} (h : σ.O[0]? = some (some ys)) (q : Q (.val .none) [ys]) : Fin 1 Q .next σ := ⟨[ys], outs1 h, q⟩
end

section
variable {prog : Program} {w : World} {K : Frag}
/-- a def's entry, the names' table written out -/
theorem enter {a : Addr} {d : Nat} {params : Arguments} {body : List Stmt} {scope : Scope} {lx : List (List PV)} {ps : List PV} {Q : Res → List (List PV) → Prop} (hfn : FnAt K a params body scope) (names : List Str)
    (hbind : ∀ nm q doc pm an cdv ct (vals : List Value), vals.length = names.length → bindArgs (fnOf nm q params body scope .none .none doc pm an cdv ct) ⟨vals, []⟩ = pure (names.zip vals))
    (hkind : ∀ n, names.all (fun x => scope.names.lookup x == some .local || (scope.names.lookup x == some .cell && ((cellsFrom n scope.names []).lookup x).isSome)) = true)
    (hnd : names.Nodup) (hlen : lx.length + ps.length = names.length) (ρ₀ : List (Str × Loc)) (O₀ : List (Option (List PV))) (eρ : names.zip (owns lx.length ++ ps.map Loc.pv) = ρ₀) (eO : lx.map some = O₀)
    (h : ∀ (bs : Base) (L : Addr) (q : Str) (cd : Value), bs.lent.length = lx.length → bs.cellsOwn = true → WB ⟨prog, w, K, bs, envF scope q L a cd, d, fun _ => True⟩ body ⟨ρ₀, O₀⟩ (Fin lx.length Q))
    (hk : scope.kind = .function := by with_unfolding_all rfl) (hco : scope.isCoroutine = false := by with_unfolding_all rfl) (hgen : scope.isGenerator = false := by with_unfolding_all rfl) : FCall prog w K (d + 1) a lx ps Q := by
  subst eρ eO
  exact fcall_enter hfn names hbind (kinds_ok hkind) hnd hlen h hk hco hgen
end

section
variable {C : Cx} {σ : St}
theorem W.freeze {α β : Type} {Rp : View → List Addr → α → β → Prop} {t : Sem β} {Q : α → St → Prop} {k : Nat} {xs : List PV} (hk : σ.O[k]? = some (some xs)) (hl : C.bs.lent.length ≤ k) (h : W C Rp t (σ.freeze k xs) Q) : W C Rp t σ Q := fun A E s V ads Q' rm R g => by
  obtain ⟨V', le, R', _⟩ := R.freeze hk hl
  exact h A E s V' ads Q' rm R' (g.later le (Pre.refl _))
/-- the state written out again -/
theorem W.state {α β : Type} {Rp : View → List Addr → α → β → Prop} {t : Sem β} {Q : α → St → Prop} (ρ' : List (Str × Loc)) (O' : List (Option (List PV))) (h : W C Rp t ⟨ρ', O'⟩ Q) (hO : O' = σ.O := by with_unfolding_all rfl) (hρ : Has σ.ρ ρ' := by repeat (first | exact Has.nil | refine Has.cons (by with_unfolding_all rfl) ?_)) : W C Rp t σ Q :=
  W.less ⟨hO, has_lookup hρ⟩ h
theorem call_v {a : Addr} {d : Nat} {ps : List PV} {rs : List Loc} {p : PV} {Q : Loc → St → Prop} (hF : FCall C.prog C.w C.K d a [] ps (fun r _ => r = .val p)) (q : Q (.pv p) σ) (hrs : rs = ps.map Loc.pv := by with_unfolding_all rfl) (hd : Nat.ble d C.d = true := by with_unfolding_all rfl) : WCall C (.ref a) rs σ Q :=
  call_f hrs hF (Nat.le_of_ble_eq_true hd) fun r e => by subst e; exact q
theorem call_n {a : Addr} {d : Nat} {ps : List PV} {rs : List Loc} {xs : List PV} {Q : Loc → St → Prop} (hF : FCall C.prog C.w C.K d a [] ps (fun r _ => r = .fresh xs)) (q : New σ xs Q) (hrs : rs = ps.map Loc.pv := by with_unfolding_all rfl) (hd : Nat.ble d C.d = true := by with_unfolding_all rfl) : WCall C (.ref a) rs σ Q :=
  call_f hrs hF (Nat.le_of_ble_eq_true hd) fun r e => by subst e; exact q
theorem lift_v {p : PV} {Q : Loc → St → Prop} (h : Q (.pv p) σ) : Lift σ Q (.val p) := h
theorem FCall.to {prog : Program} {w : World} {K : Frag} {d : Nat} {a : Addr} {lx : List (List PV)} {ps : List PV} {p p' : PV} (h : FCall prog w K d a lx ps (fun r _ => r = .val p)) (e : p = p') : FCall prog w K d a lx ps (fun r _ => r = .val p') := e ▸ h
end

end CR
namespace CR
open PySem PySem.W PyProof.Rows

def upto (a n : Nat) : List Item := (List.range (n - a)).map fun i => .one (pnat (a + i))
def downto (n : Nat) : List Item := (List.range n).map fun i => .one (pnat (n - 1 - i))
def by2 (n : Nat) : List Item := (List.range ((n + 1) / 2)).map fun i => .one (pnat (2 * i))

section
variable {C : Cx} {σ : St}
section
variable {x f : Str} {p fp pos : Pos} {e e' e'' : Expr} {P : List Item → St → Prop}
theorem map_congr_range {α : Type} {n : Nat} {g g' : Nat → α} (h : ∀ i, i < n → g i = g' i) : (List.range n).map g = (List.range n).map g' := List.map_congr_left fun i hi => h i (List.mem_range.mp hi)
theorem x_range1 (h : WE C (.Name f fp) σ fun r σ₁ => r = .pv (.ty "range") ∧ WL C [e] pos σ₁ fun rs σ₂ => ∃ n, rs = [pn n] ∧ n ≤ 1000000 ∧ P (upto 0 n) σ₂)
    (he : starEach [e] C.env = (false, eval e C.env) :: starEach [] C.env := by with_unfolding_all rfl) (hplain : (backTo pos (starEach [] C.env)).any (·.1) = false := by with_unfolding_all rfl) : WIter C (.Name x p) (.Call (.Name f fp) [e] [] pos) σ P :=
  it_range (W.mono h fun r σ₁ ⟨h1, h2⟩ => ⟨h1, W.mono h2 fun rs σ₂ ⟨n, e, hn, q⟩ => by
    subst e
    refine ⟨0, n, 1, n, ⟨rfl, rfl, rfl⟩, by decide, by lia, by lia, by lia, ?_, hn, ?_⟩
    · unfold Builtin.Range.rangeSize
      rw [if_pos (by decide)]
      split <;> lia
    · have : (List.range n).map (fun i => Item.one (.int ((0 : Int) + (i : Nat) * 1))) = upto 0 n := by
        unfold upto
        rw [Nat.sub_zero]
        exact map_congr_range fun i _ => by rw [pnat, Nat.zero_add, Int.zero_add, Int.mul_one]
      rw [this]; exact q⟩) he hplain
theorem x_range2 (h : WE C (.Name f fp) σ fun r σ₁ => r = .pv (.ty "range") ∧ WL C [e, e'] pos σ₁ fun rs σ₂ => ∃ a n, rs = [pn a, pn n] ∧ (a ≤ n ∧ n ≤ 1000000) ∧ P (upto a n) σ₂)
    (he : starEach [e, e'] C.env = (false, eval e C.env) :: starEach [e'] C.env := by with_unfolding_all rfl) (hplain : (backTo pos (starEach [e'] C.env)).any (·.1) = false := by with_unfolding_all rfl) : WIter C (.Name x p) (.Call (.Name f fp) [e, e'] [] pos) σ P :=
  it_range (W.mono h fun r σ₁ ⟨h1, h2⟩ => ⟨h1, W.mono h2 fun rs σ₂ ⟨a, n, e, ⟨ha, hn⟩, q⟩ => by
    subst e
    refine ⟨a, n, 1, n - a, ⟨rfl, rfl, rfl⟩, by decide, by lia, by lia, by lia, ?_, by lia, ?_⟩
    · unfold Builtin.Range.rangeSize
      rw [if_pos (by decide)]
      split <;> lia
    · have : (List.range (n - a)).map (fun i => Item.one (.int ((a : Int) + (i : Nat) * 1))) = upto a n := map_congr_range fun i _ => by rw [pnat, Int.mul_one, Int.natCast_add]
      rw [this]; exact q⟩) he hplain
theorem x_rangedown {k : Nat} {p1 p2 : Pos} (h : WE C (.Name f fp) σ fun r σ₁ => r = .pv (.ty "range") ∧ WL C [e, e', .UnaryOp .USub (.Constant (.int 1) k p1) p2] pos σ₁ fun rs σ₂ => ∃ (s : Int) (n : Nat), rs = [.pv (.int s), .pv (.int (-1)), .pv (.int (-1))] ∧ (s = (n : Int) - 1 ∧ n ≤ 900000) ∧ P (downto n) σ₂)
    (he : starEach [e, e', .UnaryOp .USub (.Constant (.int 1) k p1) p2] C.env = (false, eval e C.env) :: starEach [e', .UnaryOp .USub (.Constant (.int 1) k p1) p2] C.env := by with_unfolding_all rfl) (hplain : (backTo pos (starEach [e', .UnaryOp .USub (.Constant (.int 1) k p1) p2] C.env)).any (·.1) = false := by with_unfolding_all rfl) :
    WIter C (.Name x p) (.Call (.Name f fp) [e, e', .UnaryOp .USub (.Constant (.int 1) k p1) p2] [] pos) σ P :=
  it_range (W.mono h fun r σ₁ ⟨h1, h2⟩ => ⟨h1, W.mono h2 fun rs σ₂ ⟨s, n, e, ⟨ha, hn⟩, q⟩ => by
    subst e
    refine ⟨s, -1, -1, n, ⟨rfl, rfl, rfl⟩, by decide, by lia, by lia, by lia, ?_, by lia, ?_⟩
    · unfold Builtin.Range.rangeSize
      rw [if_neg (by decide), show (-(-1) : Int) = 1 by decide]
      split <;> lia
    · have : (List.range n).map (fun i => Item.one (.int (s + (i : Nat) * (-1)))) = downto n := map_congr_range fun i hi => by
        rw [pnat, show s + (i : Nat) * (-1) = ((n - 1 - i : Nat) : Int) by lia]
      rw [this]; exact q⟩) he hplain
theorem x_range_by2 {k : Nat} {p1 : Pos} (h : WE C (.Name f fp) σ fun r σ₁ => r = .pv (.ty "range") ∧ WL C [e, e', .Constant (.int 2) k p1] pos σ₁ fun rs σ₂ => ∃ n, rs = [pn 0, pn n, pn 2] ∧ n ≤ 1000000 ∧ P (by2 n) σ₂)
    (he : starEach [e, e', .Constant (.int 2) k p1] C.env = (false, eval e C.env) :: starEach [e', .Constant (.int 2) k p1] C.env := by with_unfolding_all rfl) (hplain : (backTo pos (starEach [e', .Constant (.int 2) k p1] C.env)).any (·.1) = false := by with_unfolding_all rfl) :
    WIter C (.Name x p) (.Call (.Name f fp) [e, e', .Constant (.int 2) k p1] [] pos) σ P :=
  it_range (W.mono h fun r σ₁ ⟨h1, h2⟩ => ⟨h1, W.mono h2 fun rs σ₂ ⟨n, e, hn, q⟩ => by
    subst e
    refine ⟨0, n, 2, (n + 1) / 2, ⟨rfl, rfl, rfl⟩, by decide, by lia, by lia, by lia, ?_, by lia, ?_⟩
    · unfold Builtin.Range.rangeSize
      rw [if_pos (by decide)]
      split <;> lia
    · have : (List.range ((n + 1) / 2)).map (fun i => Item.one (.int ((0 : Int) + (i : Nat) * 2))) = by2 n := map_congr_range fun i _ => by rw [pnat, show (0 : Int) + (i : Nat) * 2 = ((2 * i : Nat) : Int) by lia]
      rw [this]; exact q⟩) he hplain
end

theorem upto_get {a n i : Nat} {x : Item} (h : (upto a n)[i]? = some x) : a + i < n ∧ x = .one (pnat (a + i)) := by
  unfold upto at h
  rw [List.getElem?_map] at h
  by_cases hi : i < n - a
  · rw [List.getElem?_range hi] at h
    exact ⟨by lia, (Option.some.inj h).symm⟩
  · rw [List.getElem?_eq_none (by simpa using Nat.not_lt.mp hi)] at h; cases h
theorem downto_get {n i : Nat} {x : Item} (h : (downto n)[i]? = some x) : i < n ∧ x = .one (pnat (n - 1 - i)) := by
  unfold downto at h
  rw [List.getElem?_map] at h
  by_cases hi : i < n
  · rw [List.getElem?_range hi] at h
    exact ⟨hi, (Option.some.inj h).symm⟩
  · rw [List.getElem?_eq_none (by simpa using Nat.not_lt.mp hi)] at h; cases h
theorem by2_get {n i : Nat} {x : Item} (h : (by2 n)[i]? = some x) : i < (n + 1) / 2 ∧ x = .one (pnat (2 * i)) := by
  unfold by2 at h
  rw [List.getElem?_map] at h
  by_cases hi : i < (n + 1) / 2
  · rw [List.getElem?_range hi] at h
    exact ⟨hi, (Option.some.inj h).symm⟩
  · rw [List.getElem?_eq_none (by simpa using Nat.not_lt.mp hi)] at h; cases h

section
variable {target : Expr} {body : List Stmt} {Q : RF → St → Prop}
theorem for_upto {a n : Nat} (Inv : Nat → St → Prop) (h0 : Inv a σ) (step : ∀ j, a ≤ j → j < n → ∀ σ₂, Inv j σ₂ → ∀ bs', bs'.lent = C.bs.lent → bs'.cellsOwn = C.bs.cellsOwn → WAsg (C.wb bs') target (pn j) σ₂ fun σ₃ => WB (C.wb bs') body σ₃ (LoopQ Q (Inv (j + 1))))
    (fin : ∀ σ₂, Inv n σ₂ → Q .next σ₂) (han : a ≤ n) : LoopOf C target body (upto a n) σ Q :=
  ⟨fun i σ => Inv (a + i) σ, h0, fun i x σ₂ hx hI bs' h1 h2 => by
    obtain ⟨hi, rfl⟩ := upto_get hx
    exact step (a + i) (by lia) hi σ₂ hI bs' h1 h2, fun σ₂ hI => fin σ₂ (by
    have : a + (upto a n).length = n := by simp [upto]; lia
    have hI : Inv (a + (upto a n).length) σ₂ := hI
    rwa [this] at hI)⟩
theorem for_down {n : Nat} (Inv : Nat → St → Prop) (h0 : Inv n σ) (step : ∀ j, j < n → ∀ σ₂, Inv (j + 1) σ₂ → ∀ bs', bs'.lent = C.bs.lent → bs'.cellsOwn = C.bs.cellsOwn → WAsg (C.wb bs') target (pn j) σ₂ fun σ₃ => WB (C.wb bs') body σ₃ (LoopQ Q (Inv j)))
    (fin : ∀ σ₂, Inv 0 σ₂ → Q .next σ₂) : LoopOf C target body (downto n) σ Q :=
  ⟨fun i σ => Inv (n - i) σ, h0, fun i x σ₂ hx hI bs' h1 h2 => by
    obtain ⟨hi, rfl⟩ := downto_get hx
    have e1 : n - i = n - 1 - i + 1 := by lia
    have e2 : n - (i + 1) = n - 1 - i := by lia
    have hI : Inv (n - i) σ₂ := hI
    rw [e1] at hI
    show WItem _ _ _ _ fun σ₃ => WB _ _ _ (LoopQ Q (Inv (n - (i + 1))))
    rw [e2]
    exact step (n - 1 - i) (by lia) σ₂ hI bs' h1 h2, fun σ₂ hI => fin σ₂ (by
    have : n - (downto n).length = 0 := by simp [downto]
    have hI : Inv (n - (downto n).length) σ₂ := hI
    rwa [this] at hI)⟩
theorem for_by2 {n : Nat} (Inv : Nat → St → Prop) (h0 : Inv 0 σ) (step : ∀ j, j < (n + 1) / 2 → ∀ σ₂, Inv j σ₂ → ∀ bs', bs'.lent = C.bs.lent → bs'.cellsOwn = C.bs.cellsOwn → WAsg (C.wb bs') target (pn (2 * j)) σ₂ fun σ₃ => WB (C.wb bs') body σ₃ (LoopQ Q (Inv (j + 1))))
    (fin : ∀ σ₂, Inv ((n + 1) / 2) σ₂ → Q .next σ₂) : LoopOf C target body (by2 n) σ Q :=
  ⟨Inv, h0, fun i x σ₂ hx hI bs' h1 h2 => by
    obtain ⟨hi, rfl⟩ := by2_get hx
    exact step i hi σ₂ hI bs' h1 h2, fun σ₂ hI => fin σ₂ (by
    have : (by2 n).length = (n + 1) / 2 := by simp [by2]
    rwa [this] at hI)⟩
theorem for_list {α : Type} {f : α → PV} {xs : List α} (Inv : Nat → St → Prop) (h0 : Inv 0 σ) (step : ∀ i x, xs[i]? = some x → ∀ σ₂, Inv i σ₂ → ∀ bs', bs'.lent = C.bs.lent → bs'.cellsOwn = C.bs.cellsOwn → WAsg (C.wb bs') target (.pv (f x)) σ₂ fun σ₃ => WB (C.wb bs') body σ₃ (LoopQ Q (Inv (i + 1))))
    (fin : ∀ σ₂, Inv xs.length σ₂ → Q .next σ₂) : LoopOf C target body ((xs.map f).map Item.one) σ Q :=
  ⟨Inv, h0, fun i x σ₂ hx hI bs' h1 h2 => by
    rw [List.getElem?_map, List.getElem?_map] at hx
    cases e : xs[i]? with
    | none => rw [e] at hx; cases hx
    | some y =>
      rw [e] at hx; cases hx
      exact step i y e σ₂ hI bs' h1 h2, fun σ₂ hI => fin σ₂ (by rw [List.length_map, List.length_map] at hI; exact hI)⟩
theorem for_enum {α : Type} {f : α → PV} {xs : List α} {es : List Expr} {k : Nat} {p : Pos} (Inv : Nat → St → Prop) (h0 : Inv 0 σ) (step : ∀ i x, xs[i]? = some x → ∀ σ₂, Inv i σ₂ → ∀ bs', bs'.lent = C.bs.lent → bs'.cellsOwn = C.bs.cellsOwn → WAsgs (C.wb bs') es [pn i, .pv (f x)] σ₂ fun σ₃ => WB (C.wb bs') body σ₃ (LoopQ Q (Inv (i + 1))))
    (fin : ∀ σ₂, Inv xs.length σ₂ → Q .next σ₂) (hn : (assignEach es C.env).length = 2 := by with_unfolding_all rfl) (hf : (assignEach es C.env).findIdx? (·.1) = none := by with_unfolding_all rfl) : LoopOf C (.Tuple es k p) body ((xs.map f).mapIdx fun i x => Item.many [.int i, x]) σ Q :=
  ⟨Inv, h0, fun i x σ₂ hx hI bs' h1 h2 => by
    rw [List.getElem?_mapIdx, List.getElem?_map] at hx
    cases e : xs[i]? with
    | none => rw [e] at hx; cases hx
    | some y =>
      rw [e] at hx; cases hx
      exact ⟨es, k, p, rfl, hn, hf, step i y e σ₂ hI bs' h1 h2⟩, fun σ₂ hI => fin σ₂ (by rw [List.length_mapIdx, List.length_map] at hI; exact hI)⟩
theorem for_zip {α β : Type} {f : α → PV} {g : β → PV} {xs : List α} {ys : List β} {es : List Expr} {k : Nat} {p : Pos} (hl : xs.length = ys.length) (Inv : Nat → St → Prop) (h0 : Inv 0 σ) (step : ∀ i x y, xs[i]? = some x → ys[i]? = some y → ∀ σ₂, Inv i σ₂ → ∀ bs', bs'.lent = C.bs.lent → bs'.cellsOwn = C.bs.cellsOwn → WAsgs (C.wb bs') es [.pv (f x), .pv (g y)] σ₂ fun σ₃ => WB (C.wb bs') body σ₃ (LoopQ Q (Inv (i + 1))))
    (fin : ∀ σ₂, Inv xs.length σ₂ → Q .next σ₂) (hn : (assignEach es C.env).length = 2 := by with_unfolding_all rfl) (hf : (assignEach es C.env).findIdx? (·.1) = none := by with_unfolding_all rfl) : LoopOf C (.Tuple es k p) body (zipItems (xs.map f) (ys.map g)) σ Q :=
  ⟨Inv, h0, fun i x σ₂ hx hI bs' h1 h2 => by
    obtain ⟨u, v, hu, hv, rfl⟩ := zipItems_get _ _ _ _ hx
    rw [List.getElem?_map] at hu hv
    cases e : xs[i]? with
    | none => rw [e] at hu; cases hu
    | some y =>
      cases e' : ys[i]? with
      | none => rw [e'] at hv; cases hv
      | some z =>
        rw [e] at hu; cases hu
        rw [e'] at hv; cases hv
        exact ⟨es, k, p, rfl, hn, hf, step i y z e e' σ₂ hI bs' h1 h2⟩, fun σ₂ hI => fin σ₂ (by rw [zipItems_len, List.length_map, List.length_map, hl, Nat.min_self, ← hl] at hI; exact hI)⟩
end
end

end CR
namespace CR

def val (B : Nat) : List Nat → Nat
  | [] => 0
  | x :: xs => x + B * val B xs
def Dig (B : Nat) (xs : List Nat) : Prop := ∀ x ∈ xs, x < B
def strip (xs : List Nat) : List Nat := (xs.reverse.dropWhile (· == 0)).reverse
def limbs (B n : Nat) : List Nat := if h : n = 0 ∨ B < 2 then [] else n % B :: limbs B (n / B)
termination_by n
decreasing_by
  have : n ≠ 0 := fun e => h (.inl e)
  exact Nat.div_lt_self (by lia) (by lia)

theorem val_append (B : Nat) : ∀ xs ys, val B (xs ++ ys) = val B xs + B ^ xs.length * val B ys
  | [], ys => by simp [val]
  | x :: xs, ys => by
    rw [List.cons_append, val, val, val_append B xs ys, List.length_cons, Nat.pow_succ, Nat.mul_add, Nat.add_assoc, Nat.mul_comm (B ^ xs.length) B, Nat.mul_assoc]
theorem val_snoc (B : Nat) (xs : List Nat) (x : Nat) : val B (xs ++ [x]) = val B xs + B ^ xs.length * x := by rw [val_append]; simp [val]
theorem val_zeros (B : Nat) : ∀ n, val B (List.replicate n 0) = 0
  | 0 => rfl
  | n + 1 => by rw [List.replicate_succ, val, val_zeros B n]; simp
theorem val_take (B : Nat) {xs : List Nat} {i x : Nat} (h : xs[i]? = some x) : val B (xs.take (i + 1)) = val B (xs.take i) + B ^ i * x := by
  have hl : i < xs.length := (List.getElem?_eq_some_iff.mp h).1
  rw [List.take_add_one, h, Option.toList_some, val_snoc, List.length_take, Nat.min_eq_left (by lia)]
theorem val_drop (B : Nat) {xs : List Nat} {i x : Nat} (h : xs[i]? = some x) : val B (xs.drop i) = x + B * val B (xs.drop (i + 1)) := by
  obtain ⟨hl, rfl⟩ := List.getElem?_eq_some_iff.mp h
  rw [List.drop_eq_getElem_cons hl, val]
theorem Dig.nil {B : Nat} : Dig B [] := fun _ h => nomatch h
theorem Dig.cons {B x : Nat} {xs : List Nat} (h : x < B) (hs : Dig B xs) : Dig B (x :: xs) := fun y hy => (List.mem_cons.mp hy).elim (fun e => e ▸ h) (hs y)
theorem Dig.append {B : Nat} {xs ys : List Nat} (h : Dig B xs) (h' : Dig B ys) : Dig B (xs ++ ys) := fun x hx => (List.mem_append.mp hx).elim (h x) (h' x)
theorem Dig.snoc {B x : Nat} {xs : List Nat} (h : Dig B xs) (hx : x < B) : Dig B (xs ++ [x]) := h.append (Dig.nil.cons hx)
theorem Dig.take {B : Nat} {xs : List Nat} (h : Dig B xs) (n : Nat) : Dig B (xs.take n) := fun x hx => h x (List.mem_of_mem_take hx)
theorem Dig.drop {B : Nat} {xs : List Nat} (h : Dig B xs) (n : Nat) : Dig B (xs.drop n) := fun x hx => h x (List.mem_of_mem_drop hx)
theorem Dig.get {B : Nat} {xs : List Nat} (h : Dig B xs) {i x : Nat} (e : xs[i]? = some x) : x < B := h x (List.mem_of_getElem? e)
theorem Dig.set {B : Nat} {xs : List Nat} (h : Dig B xs) (i : Nat) {x : Nat} (hx : x < B) : Dig B (xs.set i x) := fun y hy => by
  rcases List.mem_or_eq_of_mem_set hy with h' | h'
  · exact h y h'
  · exact h' ▸ hx
theorem Dig.zeros {B : Nat} (hB : 0 < B) (n : Nat) : Dig B (List.replicate n 0) := fun x hx => (List.eq_of_mem_replicate hx) ▸ hB
theorem val_lt {B : Nat} (hB : 0 < B) : ∀ {xs : List Nat}, Dig B xs → val B xs < B ^ xs.length
  | [], _ => by simp [val]
  | x :: xs, h => by
    have h1 := val_lt hB (xs := xs) fun y hy => h y (List.mem_cons_of_mem _ hy)
    have h2 : x < B := h x List.mem_cons_self
    rw [val, List.length_cons, Nat.pow_succ, Nat.mul_comm (B ^ _) B]
    have h3 : B * (val B xs + 1) ≤ B * B ^ xs.length := Nat.mul_le_mul_left B h1
    rw [Nat.mul_add, Nat.mul_one] at h3
    lia

theorem limbs_zero (B : Nat) : limbs B 0 = [] := by rw [limbs]; simp
theorem limbs_pos {B n : Nat} (hB : 2 ≤ B) (hn : n ≠ 0) : limbs B n = n % B :: limbs B (n / B) := by
  rw [limbs, dif_neg (by lia)]
theorem limbs_cons {B d v : Nat} (hB : 2 ≤ B) (hd : d < B) (hv : 0 < v ∨ 0 < d) : limbs B (d + B * v) = d :: limbs B v := by
  have h : 0 < d + B * v := by
    rcases hv with h | h
    · have := Nat.mul_pos (show 0 < B by lia) h; lia
    · lia
  rw [limbs_pos hB (by lia), Nat.add_mul_mod_self_left, Nat.mod_eq_of_lt hd, Nat.add_mul_div_left _ _ (by lia), Nat.div_eq_of_lt hd, Nat.zero_add]
theorem val_limbs {B : Nat} (hB : 2 ≤ B) : ∀ n, val B (limbs B n) = n := fun n => by
  induction n using Nat.strongRecOn with
  | _ n ih =>
    by_cases h : n = 0
    · subst h; rw [limbs_zero]; rfl
    · rw [limbs_pos hB h, val, ih (n / B) (Nat.div_lt_self (by lia) (by lia))]
      exact Nat.mod_add_div n B
theorem limbs_dig {B : Nat} (hB : 2 ≤ B) : ∀ n, Dig B (limbs B n) := fun n => by
  induction n using Nat.strongRecOn with
  | _ n ih =>
    by_cases h : n = 0
    · subst h; rw [limbs_zero]; exact .nil
    · rw [limbs_pos hB h]
      exact (ih (n / B) (Nat.div_lt_self (by lia) (by lia))).cons (Nat.mod_lt _ (by lia))
theorem limbs_ne {B n : Nat} (hB : 2 ≤ B) (h : n ≠ 0) : limbs B n ≠ [] := by rw [limbs_pos hB h]; simp
theorem limbs_nil {B n : Nat} (hB : 2 ≤ B) : limbs B n = [] ↔ n = 0 := ⟨fun h => Decidable.byContradiction fun c => limbs_ne hB c h, fun h => by rw [h, limbs_zero]⟩
theorem limbs_last {B : Nat} (hB : 2 ≤ B) : ∀ n x, (limbs B n).getLast? = some x → x ≠ 0 := fun n => by
  induction n using Nat.strongRecOn with
  | _ n ih =>
    intro x hx
    by_cases h : n = 0
    · subst h; rw [limbs_zero] at hx; simp at hx
    · rw [limbs_pos hB h] at hx
      by_cases h' : n / B = 0
      · rw [h', limbs_zero] at hx
        simp only [List.getLast?_singleton, Option.some.injEq] at hx
        have := Nat.mod_add_div n B
        rw [h', hx] at this
        rintro rfl
        simp at this
        exact h this.symm
      · rw [List.getLast?_cons_of_ne_nil (limbs_ne hB h')] at hx
        exact ih (n / B) (Nat.div_lt_self (by lia) (by lia)) x hx
/-- digits without a nought at their top are the limbs of their value -/
theorem limbs_val {B : Nat} (hB : 2 ≤ B) : ∀ {xs : List Nat}, Dig B xs → (∀ x, xs.getLast? = some x → x ≠ 0) → limbs B (val B xs) = xs
  | [], _, _ => by rw [val, limbs_zero]
  | [x], h, hl => by
    have hx := h x (by simp)
    have h0 : x ≠ 0 := hl x rfl
    rw [val, limbs_cons hB hx (.inr (by lia)), val, limbs_zero]
  | x :: y :: ys, h, hl => by
    have ih := limbs_val hB (xs := y :: ys) (fun z hz => h z (List.mem_cons_of_mem _ hz)) (fun z hz => hl z (by rw [List.getLast?_cons_cons]; exact hz))
    have hx := h x (by simp)
    have hv : 0 < val B (y :: ys) := by
      apply Nat.pos_of_ne_zero
      intro e
      rw [e, limbs_zero] at ih
      cases ih
    rw [val, limbs_cons hB hx (.inl hv), ih]
theorem strip_zero {xs : List Nat} {e : Nat} (h : xs[e]? = some 0) : strip (xs.take (e + 1)) = strip (xs.take e) := by
  rw [List.take_add_one, h]; simp [strip]
theorem strip_pos {xs : List Nat} {e x : Nat} (h : xs[e]? = some x) (h0 : x ≠ 0) : strip (xs.take (e + 1)) = xs.take (e + 1) := by
  rw [List.take_add_one, h]; simp [strip, h0]
theorem strip_len {xs : List Nat} : (strip xs).length ≤ xs.length := by
  unfold strip
  rw [List.length_reverse]
  exact Nat.le_trans (List.dropWhile_suffix _).length_le (by rw [List.length_reverse]; exact Nat.le_refl _)
theorem strip_limbs {B : Nat} (hB : 2 ≤ B) {xs : List Nat} (h : Dig B xs) : strip xs = limbs B (val B xs) := by
  have key : ∀ n, n ≤ xs.length → strip (xs.take n) = limbs B (val B (xs.take n)) := by
    intro n
    induction n with
    | zero => intro _; simp [strip, val, limbs_zero]
    | succ n ih =>
      intro hn
      obtain ⟨x, hx⟩ : ∃ x, xs[n]? = some x := ⟨_, List.getElem?_eq_getElem hn⟩
      by_cases h0 : x = 0
      · subst h0
        rw [strip_zero hx, val_take B hx, Nat.mul_zero, Nat.add_zero]
        exact ih (by lia)
      · rw [strip_pos hx h0, limbs_val hB (h.take _)]
        intro y hy
        rw [List.take_add_one, hx] at hy
        simp at hy
        exact hy ▸ h0
  have := key xs.length (Nat.le_refl _)
  rwa [List.take_length] at this
theorem limbs_len {B : Nat} (hB : 2 ≤ B) : ∀ (k n : Nat), n < B ^ k → (limbs B n).length ≤ k
  | 0, n, h => by
    have : n = 0 := by simpa using h
    subst this; rw [limbs_zero]; exact Nat.le_refl _
  | k + 1, n, h => by
    by_cases h0 : n = 0
    · subst h0; rw [limbs_zero]; exact Nat.zero_le _
    · rw [limbs_pos hB h0, List.length_cons]
      exact Nat.succ_le_succ (limbs_len hB k _ ((Nat.div_lt_iff_lt_mul (by lia)).mpr (by rw [← Nat.pow_succ]; exact h)))
theorem two_le_pow {w : Nat} (h : 1 ≤ w) : 2 ≤ 2 ^ w := by
  calc 2 = 2 ^ 1 := rfl
    _ ≤ 2 ^ w := Nat.pow_le_pow_right (by decide) h
theorem limbs_len2 {w n k : Nat} (hw : 1 ≤ w) (h : n < 2 ^ k) : (limbs (2 ^ w) n).length ≤ k :=
  limbs_len (two_le_pow hw) k n (by rw [← Nat.pow_mul]; exact Nat.lt_of_lt_of_le h (Nat.pow_le_pow_right (by decide) (Nat.le_mul_of_pos_left k hw)))
theorem limbs_ge {B n : Nat} (hB : 2 ≤ B) (h : n ≠ 0) : B ^ ((limbs B n).length - 1) ≤ n := by
  induction n using Nat.strongRecOn with
  | _ n ih =>
    rw [limbs_pos hB h, List.length_cons, Nat.add_sub_cancel]
    by_cases h' : n / B = 0
    · rw [h', limbs_zero]; simp; lia
    · have := ih (n / B) (Nat.div_lt_self (by lia) (by lia)) h'
      have hl : 0 < (limbs B (n / B)).length := List.length_pos_iff.mpr (limbs_ne hB h')
      obtain ⟨m, hm⟩ : ∃ m, (limbs B (n / B)).length = m + 1 := ⟨_, (Nat.sub_add_cancel hl).symm⟩
      rw [hm, Nat.add_sub_cancel] at this
      rw [hm, Nat.pow_succ]
      exact Nat.le_trans (Nat.mul_le_mul_right B this) (Nat.div_mul_le_self n B)
theorem limbs_lt {B n : Nat} (hB : 2 ≤ B) : n < B ^ (limbs B n).length := by
  have := val_lt (by lia : 0 < B) (limbs_dig hB n)
  rwa [val_limbs hB] at this
theorem limbs_val' {B : Nat} (hB : 2 ≤ B) {xs : List Nat} (h : Dig B xs) (hl : xs = [] ∨ B ^ (xs.length - 1) ≤ val B xs) : limbs B (val B xs) = xs := by
  refine limbs_val hB h fun x hx h0 => ?_
  subst h0
  rcases List.eq_nil_or_concat xs with e | ⟨ys, y, e⟩
  · subst e; simp at hx
  · try rw [List.concat_eq_append] at e
    subst e
    have hx : y = 0 := by simpa using hx
    subst hx
    rcases hl with e | e
    · simp at e
    · rw [val_snoc] at e
      simp only [List.length_append, List.length_cons, List.length_nil, Nat.zero_add, Nat.add_sub_cancel, Nat.mul_zero, Nat.add_zero] at e
      have := val_lt (by lia : 0 < B) (xs := ys) fun z hz => h z (by simp [hz])
      lia
theorem push_val {B c t A j : Nat} {ds : List Nat} (hj : ds.length = j) (h : val B ds + B ^ j * c = A) : val B (ds ++ [(c + t) % B]) + B ^ (j + 1) * ((c + t) / B) = A + B ^ j * t := by
  rw [val_snoc, hj, Nat.pow_succ, Nat.mul_assoc, Nat.add_assoc, ← Nat.mul_add, Nat.mod_add_div, Nat.mul_add, ← Nat.add_assoc, h]
theorem limbs_top {B n : Nat} (hB : 2 ≤ B) {xs : List Nat} (h : Dig B xs) (hl : xs = [] ∨ B ^ (xs.length - 1) ≤ n) (hv : val B xs = n) : limbs B n = xs := by subst hv; exact limbs_val' hB h hl
theorem drop_set {xs : List Nat} {j q : Nat} (h : j < xs.length) : (xs.set j q).drop j = q :: xs.drop (j + 1) := by
  rw [List.drop_eq_getElem_cons (by rw [List.length_set]; exact h)]
  congr 1
  · exact List.getElem_set_self _
  · rw [List.drop_set_of_lt (by lia)]
end CR
namespace CR
open PySem PySem.W PyProof.Rows
section
variable {prog : Program} {w : World} {K : Frag} {ad : Nat → Addr}
theorem normal_ok (P : Prg K ad) (xs : List Nat) (hz : xs.length ≤ 100000) : FCall prog w K 1 (ad 4) [] [row xs] (fun r _ => r = .val (row (strip xs))) := by
  refine enter (P.fn 4 (by decide)) [Nm "a"] (by (intro nm q doc pm an cdv ct vals h; obtain ⟨a, e⟩ := len1 h; subst e; with_unfolding_all rfl)) (fun _ => rfl) (by decide) rfl [(Nm "a", .pv (row xs))] [] rfl rfl ?_
  intro bs L q cd hl hc
  refine let C : Cx := _; let Z : RF → St → Prop := _; (show WB C _ _ Z from ?_)
  refine b_next ?_
  repeat (with_reducible first | (refine x_name ?_; refine ⟨_, by with_unfolding_all rfl, ?_⟩) | refine l_cons ?_ | refine l_nil ?_ | refine ⟨rfl, ?_⟩ | refine sto_l ?_ | refine e_call ?_ | refine ⟨_, _, _, by with_unfolding_all rfl, by (first | assumption | (with_unfolding_all exact Nat.le_of_ble_eq_true rfl) | (apply Nat.le_trans; assumption; with_unfolding_all exact Nat.le_of_ble_eq_true rfl) | (apply Nat.lt_of_le_of_lt; assumption; with_unfolding_all exact Nat.le_of_ble_eq_true rfl) | ((try simp only [List.length_map, List.length_append, List.length_cons, List.length_nil, List.length_set, List.length_replicate, List.length_take, List.length_drop, List.length_reverse]); first | assumption | lia) | decide), ?_⟩ | refine x_assign ?_ | refine b_while ?_ | refine k_bi ?_ | refine x_len ?_ | refine b_len (by assumption) ?_)
  let I1 : Nat → St → Prop := fun n σ => σ = ⟨[(Nm "a", .pv (row xs)), (Nm "end", pn n)], []⟩ ∧ n ≤ xs.length ∧ strip (xs.take n) = strip xs
  refine s_while I1 xs.length ⟨rfl, Nat.le_refl _, by rw [List.take_length]⟩ ?_
  rintro n _ ⟨rfl, hn, hs⟩
  cases n with
  | zero =>
    repeat (with_reducible first | (refine x_name ?_; refine ⟨_, by with_unfolding_all rfl, ?_⟩) | refine e_nat ?_ | refine ⟨_, rfl, ?_⟩ | refine t_cmp ?_ | refine e_slice ?_ | refine ⟨_, _, _, by with_unfolding_all rfl, by (first | assumption | (with_unfolding_all exact Nat.le_of_ble_eq_true rfl) | (apply Nat.le_trans; assumption; with_unfolding_all exact Nat.le_of_ble_eq_true rfl) | (apply Nat.lt_of_le_of_lt; assumption; with_unfolding_all exact Nat.le_of_ble_eq_true rfl) | ((try simp only [List.length_map, List.length_append, List.length_cons, List.length_nil, List.length_set, List.length_replicate, List.length_take, List.length_drop, List.length_reverse]); first | assumption | lia) | decide), ?_⟩ | refine s_return ?_ | refine b_ret ?_ | refine then_next ?_ | refine ite_ff ?_ | (refine ite_f ?_ ?_; (first | assumption | (with_unfolding_all exact Nat.le_of_ble_eq_true rfl) | (apply Nat.le_trans; assumption; with_unfolding_all exact Nat.le_of_ble_eq_true rfl) | (apply Nat.lt_of_le_of_lt; assumption; with_unfolding_all exact Nat.le_of_ble_eq_true rfl) | ((try simp only [List.length_map, List.length_append, List.length_cons, List.length_nil, List.length_set, List.length_replicate, List.length_take, List.length_drop, List.length_reverse]); first | assumption | lia) | decide)) | refine gt_nn ?_ | refine x_upto ?_ | refine o_none ?_ | refine o_some ?_ | refine t_bool ?_ | refine all_and ?_)
    exact .inl (fin_val (by rw [← hs]; rfl))
  | succ n =>
    obtain ⟨x, hx⟩ : ∃ x, xs[n]? = some x := ⟨_, List.getElem?_eq_getElem hn⟩
    by_cases h0 : x = 0
    · subst h0
      repeat (with_reducible first | (refine x_name ?_; refine ⟨_, by with_unfolding_all rfl, ?_⟩) | refine e_nat ?_ | refine e_bin ?_ | refine ⟨rfl, ?_⟩ | refine sto_l ?_ | refine ⟨_, rfl, ?_⟩ | refine t_cmp ?_ | refine e_sub ?_ | refine x_ix ?_ | refine ⟨_, _, _, _, by with_unfolding_all rfl, by (first | assumption | with_unfolding_all assumption), by (first | assumption | (with_unfolding_all exact Nat.le_of_ble_eq_true rfl) | (apply Nat.le_trans; assumption; with_unfolding_all exact Nat.le_of_ble_eq_true rfl) | (apply Nat.lt_of_le_of_lt; assumption; with_unfolding_all exact Nat.le_of_ble_eq_true rfl) | ((try simp only [List.length_map, List.length_append, List.length_cons, List.length_nil, List.length_set, List.length_replicate, List.length_take, List.length_drop, List.length_reverse]); first | assumption | lia) | decide), ?_⟩ | refine x_aug ?_ | refine b_nil ?_ | refine b_next ?_ | refine ite_tt ?_ | (refine ite_t ?_ ?_; (first | assumption | (with_unfolding_all exact Nat.le_of_ble_eq_true rfl) | (apply Nat.le_trans; assumption; with_unfolding_all exact Nat.le_of_ble_eq_true rfl) | (apply Nat.lt_of_le_of_lt; assumption; with_unfolding_all exact Nat.le_of_ble_eq_true rfl) | ((try simp only [List.length_map, List.length_append, List.length_cons, List.length_nil, List.length_set, List.length_replicate, List.length_take, List.length_drop, List.length_reverse]); first | assumption | lia) | decide)) | (refine sub_nn ?_ ?_; (first | assumption | (with_unfolding_all exact Nat.le_of_ble_eq_true rfl) | (apply Nat.le_trans; assumption; with_unfolding_all exact Nat.le_of_ble_eq_true rfl) | (apply Nat.lt_of_le_of_lt; assumption; with_unfolding_all exact Nat.le_of_ble_eq_true rfl) | ((try simp only [List.length_map, List.length_append, List.length_cons, List.length_nil, List.length_set, List.length_replicate, List.length_take, List.length_drop, List.length_reverse]); first | assumption | lia) | decide)) | (refine isub_nn ?_ ?_; (first | assumption | (with_unfolding_all exact Nat.le_of_ble_eq_true rfl) | (apply Nat.le_trans; assumption; with_unfolding_all exact Nat.le_of_ble_eq_true rfl) | (apply Nat.lt_of_le_of_lt; assumption; with_unfolding_all exact Nat.le_of_ble_eq_true rfl) | ((try simp only [List.length_map, List.length_append, List.length_cons, List.length_nil, List.length_set, List.length_replicate, List.length_take, List.length_drop, List.length_reverse]); first | assumption | lia) | decide)) | refine gt_nn ?_ | refine eq_nn ?_ | refine t_bool ?_ | refine all_and ?_ | refine all_and_nil ?_)
      exact loop_next (next_of ⟨n, Nat.lt_succ_self n, rfl, Nat.le_of_succ_le hn, by rw [← hs, strip_zero hx]⟩)
    · repeat (with_reducible first | (refine x_name ?_; refine ⟨_, by with_unfolding_all rfl, ?_⟩) | refine e_nat ?_ | refine e_bin ?_ | refine ⟨_, rfl, ?_⟩ | refine t_cmp ?_ | refine e_slice ?_ | refine e_sub ?_ | refine x_ix ?_ | refine ⟨_, _, _, _, by with_unfolding_all rfl, by (first | assumption | with_unfolding_all assumption), by (first | assumption | (with_unfolding_all exact Nat.le_of_ble_eq_true rfl) | (apply Nat.le_trans; assumption; with_unfolding_all exact Nat.le_of_ble_eq_true rfl) | (apply Nat.lt_of_le_of_lt; assumption; with_unfolding_all exact Nat.le_of_ble_eq_true rfl) | ((try simp only [List.length_map, List.length_append, List.length_cons, List.length_nil, List.length_set, List.length_replicate, List.length_take, List.length_drop, List.length_reverse]); first | assumption | lia) | decide), ?_⟩ | refine ⟨_, _, _, by with_unfolding_all rfl, by (first | assumption | (with_unfolding_all exact Nat.le_of_ble_eq_true rfl) | (apply Nat.le_trans; assumption; with_unfolding_all exact Nat.le_of_ble_eq_true rfl) | (apply Nat.lt_of_le_of_lt; assumption; with_unfolding_all exact Nat.le_of_ble_eq_true rfl) | ((try simp only [List.length_map, List.length_append, List.length_cons, List.length_nil, List.length_set, List.length_replicate, List.length_take, List.length_drop, List.length_reverse]); first | assumption | lia) | decide), ?_⟩ | refine s_return ?_ | refine b_ret ?_ | refine then_next ?_ | refine ite_ff ?_ | (refine ite_t ?_ ?_; (first | assumption | (with_unfolding_all exact Nat.le_of_ble_eq_true rfl) | (apply Nat.le_trans; assumption; with_unfolding_all exact Nat.le_of_ble_eq_true rfl) | (apply Nat.lt_of_le_of_lt; assumption; with_unfolding_all exact Nat.le_of_ble_eq_true rfl) | ((try simp only [List.length_map, List.length_append, List.length_cons, List.length_nil, List.length_set, List.length_replicate, List.length_take, List.length_drop, List.length_reverse]); first | assumption | lia) | decide)) | (refine ite_f ?_ ?_; (first | assumption | (with_unfolding_all exact Nat.le_of_ble_eq_true rfl) | (apply Nat.le_trans; assumption; with_unfolding_all exact Nat.le_of_ble_eq_true rfl) | (apply Nat.lt_of_le_of_lt; assumption; with_unfolding_all exact Nat.le_of_ble_eq_true rfl) | ((try simp only [List.length_map, List.length_append, List.length_cons, List.length_nil, List.length_set, List.length_replicate, List.length_take, List.length_drop, List.length_reverse]); first | assumption | lia) | decide)) | (refine sub_nn ?_ ?_; (first | assumption | (with_unfolding_all exact Nat.le_of_ble_eq_true rfl) | (apply Nat.le_trans; assumption; with_unfolding_all exact Nat.le_of_ble_eq_true rfl) | (apply Nat.lt_of_le_of_lt; assumption; with_unfolding_all exact Nat.le_of_ble_eq_true rfl) | ((try simp only [List.length_map, List.length_append, List.length_cons, List.length_nil, List.length_set, List.length_replicate, List.length_take, List.length_drop, List.length_reverse]); first | assumption | lia) | decide)) | refine gt_nn ?_ | refine eq_nn ?_ | refine x_upto ?_ | refine o_none ?_ | refine o_some ?_ | refine t_bool ?_ | refine all_and ?_)
      exact .inl (fin_val (by rw [← hs, strip_pos hx h0]))

def cmp (m n : Nat) : Int := if m < n then -1 else if n < m then 1 else 0
theorem val_lt_of {B : Nat} (hB : 0 < B) {xs ys : List Nat} (hx : Dig B xs) (hy : Dig B ys) (hl : xs.length = ys.length) {j x y : Nat} (ex : xs[j]? = some x) (ey : ys[j]? = some y) (he : xs.drop (j + 1) = ys.drop (j + 1)) (h : x < y) : val B xs < val B ys := by
  have e1 : val B xs = val B (xs.take (j + 1)) + B ^ (j + 1) * val B (xs.drop (j + 1)) := by
    have := val_append B (xs.take (j + 1)) (xs.drop (j + 1))
    rw [List.take_append_drop, List.length_take, Nat.min_eq_left (by have := (List.getElem?_eq_some_iff.mp ex).1; lia)] at this
    exact this
  have e2 : val B ys = val B (ys.take (j + 1)) + B ^ (j + 1) * val B (ys.drop (j + 1)) := by
    have := val_append B (ys.take (j + 1)) (ys.drop (j + 1))
    rw [List.take_append_drop, List.length_take, Nat.min_eq_left (by have := (List.getElem?_eq_some_iff.mp ey).1; lia)] at this
    exact this
  rw [e1, e2, he, val_take B ex, val_take B ey]
  have h1 := val_lt hB (hx.take j)
  rw [List.length_take, Nat.min_eq_left (by have := (List.getElem?_eq_some_iff.mp ex).1; lia)] at h1
  have h2 : B ^ j * (x + 1) ≤ B ^ j * y := Nat.mul_le_mul_left _ h
  rw [Nat.mul_add, Nat.mul_one] at h2
  lia
theorem limbs_lt_len {B m n : Nat} (hB : 2 ≤ B) (h : (limbs B m).length < (limbs B n).length) : m < n := by
  have h1 := limbs_lt (n := m) hB
  have hn : n ≠ 0 := by rintro rfl; rw [limbs_zero] at h; simp at h
  have h2 := limbs_ge hB hn
  exact Nat.lt_of_lt_of_le h1 (Nat.le_trans (Nat.pow_le_pow_right (by lia) (by lia)) h2)

theorem compare_ok (P : Prg K ad) {B m n : Nat} (hB : 2 ≤ B) (hm : (limbs B m).length ≤ 1000) (hn : (limbs B n).length ≤ 1000) : FCall prog w K 1 (ad 5) [] [row (limbs B m), row (limbs B n)] (fun r _ => r = .val (.int (cmp m n))) := by
  refine enter (P.fn 5 (by decide)) [Nm "a", Nm "b"] (by (intro nm q doc pm an cdv ct vals h; obtain ⟨a, b, e⟩ := len2 h; subst e; with_unfolding_all rfl)) (fun _ => rfl) (by decide) rfl [(Nm "a", .pv (row (limbs B m))), (Nm "b", .pv (row (limbs B n)))] [] rfl rfl ?_
  intro bs L q cd hl hc
  refine let C : Cx := _; let Z : RF → St → Prop := _; (show WB C _ _ Z from ?_)
  refine b_then ?_
  repeat (with_reducible first | (refine x_name ?_; refine ⟨_, by with_unfolding_all rfl, ?_⟩) | refine l_cons ?_ | refine l_nil ?_ | refine ⟨_, rfl, ?_⟩ | refine t_cmp ?_ | refine e_call ?_ | refine ⟨_, _, _, by with_unfolding_all rfl, by (first | assumption | (with_unfolding_all exact Nat.le_of_ble_eq_true rfl) | (apply Nat.le_trans; assumption; with_unfolding_all exact Nat.le_of_ble_eq_true rfl) | (apply Nat.lt_of_le_of_lt; assumption; with_unfolding_all exact Nat.le_of_ble_eq_true rfl) | ((try simp only [List.length_map, List.length_append, List.length_cons, List.length_nil, List.length_set, List.length_replicate, List.length_take, List.length_drop, List.length_reverse]); first | assumption | lia) | decide), ?_⟩ | refine s_if ?_ | refine k_bi ?_ | refine x_len ?_ | refine ne_nn ?_ | refine b_len (by assumption) ?_)
  refine ite_d (fun h => ?_) (fun h => ?_)
  · repeat (with_reducible first | (refine x_name ?_; refine ⟨_, by with_unfolding_all rfl, ?_⟩) | refine l_cons ?_ | refine l_nil ?_ | refine ⟨_, rfl, ?_⟩ | refine t_cmp ?_ | refine e_call ?_ | refine ⟨_, _, _, by with_unfolding_all rfl, by (first | assumption | (with_unfolding_all exact Nat.le_of_ble_eq_true rfl) | (apply Nat.le_trans; assumption; with_unfolding_all exact Nat.le_of_ble_eq_true rfl) | (apply Nat.lt_of_le_of_lt; assumption; with_unfolding_all exact Nat.le_of_ble_eq_true rfl) | ((try simp only [List.length_map, List.length_append, List.length_cons, List.length_nil, List.length_set, List.length_replicate, List.length_take, List.length_drop, List.length_reverse]); first | assumption | lia) | decide), ?_⟩ | refine s_return ?_ | refine b_ret ?_ | refine k_bi ?_ | refine x_len ?_ | refine lt_nn ?_ | refine ifExp ?_ | refine b_len (by assumption) ?_)
    refine ite_d (fun h' => ?_) (fun h' => ?_)
    · repeat (with_reducible first | refine then_ret ?_ | refine e_neg1 ?_)
      refine fin_val ?_
      rw [cmp, if_pos (limbs_lt_len hB h')]
    · repeat (with_reducible first | refine e_nat ?_ | refine then_ret ?_)
      refine fin_val ?_
      have := limbs_lt_len (m := n) (n := m) hB (by lia)
      rw [cmp, if_neg (by lia), if_pos this]; rfl
  · have hlen : (limbs B m).length = (limbs B n).length := Decidable.byContradiction h
    repeat (with_reducible first | (refine x_name ?_; refine ⟨_, by with_unfolding_all rfl, ?_⟩) | refine e_nat ?_ | refine l_cons ?_ | refine l_nil ?_ | refine e_bin ?_ | refine ⟨rfl, ?_⟩ | refine e_call ?_ | refine ⟨_, _, _, by with_unfolding_all rfl, by (first | assumption | (with_unfolding_all exact Nat.le_of_ble_eq_true rfl) | (apply Nat.le_trans; assumption; with_unfolding_all exact Nat.le_of_ble_eq_true rfl) | (apply Nat.lt_of_le_of_lt; assumption; with_unfolding_all exact Nat.le_of_ble_eq_true rfl) | ((try simp only [List.length_map, List.length_append, List.length_cons, List.length_nil, List.length_set, List.length_replicate, List.length_take, List.length_drop, List.length_reverse]); first | assumption | lia) | decide), ?_⟩ | refine b_nil ?_ | refine b_for ?_ | refine then_next ?_ | refine s_for ?_ | refine x_rangedown ?_ | refine k_bi ?_ | refine x_len ?_ | refine sub_ii ?_ | refine e_neg1 ?_ | refine b_len (by assumption) ?_ | refine b_range (by assumption) ?_)
    refine ⟨_, (limbs B m).length, rfl, ⟨by lia, by lia⟩, ?_⟩
    let I2 : Nat → St → Prop := fun j σ => σ = ⟨[(Nm "a", .pv (row (limbs B m))), (Nm "b", .pv (row (limbs B n)))], []⟩ ∧ (limbs B m).drop j = (limbs B n).drop j
    refine for_down I2 ⟨rfl, by rw [List.drop_length, hlen, List.drop_length]⟩ ?_ ?_
    · rintro j hj _ ⟨rfl, he⟩ bs' _ _
      obtain ⟨x, hx⟩ : ∃ x, (limbs B m)[j]? = some x := ⟨_, List.getElem?_eq_getElem hj⟩
      obtain ⟨y, hy⟩ : ∃ y, (limbs B n)[j]? = some y := ⟨_, List.getElem?_eq_getElem (by lia)⟩
      repeat (with_reducible first | (refine x_name ?_; refine ⟨_, by with_unfolding_all rfl, ?_⟩) | refine sto_l ?_ | refine ⟨_, rfl, ?_⟩ | refine t_cmp ?_ | refine e_sub ?_ | refine x_ix ?_ | refine ⟨_, _, _, _, by with_unfolding_all rfl, by (first | assumption | with_unfolding_all assumption), by (first | assumption | (with_unfolding_all exact Nat.le_of_ble_eq_true rfl) | (apply Nat.le_trans; assumption; with_unfolding_all exact Nat.le_of_ble_eq_true rfl) | (apply Nat.lt_of_le_of_lt; assumption; with_unfolding_all exact Nat.le_of_ble_eq_true rfl) | ((try simp only [List.length_map, List.length_append, List.length_cons, List.length_nil, List.length_set, List.length_replicate, List.length_take, List.length_drop, List.length_reverse]); first | assumption | lia) | decide), ?_⟩ | refine s_if ?_ | refine b_if ?_ | refine ne_nn ?_ | refine xa_name ?_)
      refine ite_d (fun hne => ?_) (fun hne => ?_)
      · repeat (with_reducible first | (refine x_name ?_; refine ⟨_, by with_unfolding_all rfl, ?_⟩) | refine ⟨_, rfl, ?_⟩ | refine t_cmp ?_ | refine e_sub ?_ | refine x_ix ?_ | refine ⟨_, _, _, _, by with_unfolding_all rfl, by (first | assumption | with_unfolding_all assumption), by (first | assumption | (with_unfolding_all exact Nat.le_of_ble_eq_true rfl) | (apply Nat.le_trans; assumption; with_unfolding_all exact Nat.le_of_ble_eq_true rfl) | (apply Nat.lt_of_le_of_lt; assumption; with_unfolding_all exact Nat.le_of_ble_eq_true rfl) | ((try simp only [List.length_map, List.length_append, List.length_cons, List.length_nil, List.length_set, List.length_replicate, List.length_take, List.length_drop, List.length_reverse]); first | assumption | lia) | decide), ?_⟩ | refine s_return ?_ | refine b_ret ?_ | refine lt_nn ?_ | refine ifExp ?_)
        refine ite_d (fun hlt => ?_) (fun hlt => ?_)
        · repeat (with_reducible first | refine then_ret ?_ | refine loop_ret ?_ | refine e_neg1 ?_)
          refine fin_val ?_
          have := val_lt_of (by lia) (limbs_dig hB m) (limbs_dig hB n) hlen hx hy he hlt
          rw [val_limbs hB, val_limbs hB] at this
          rw [cmp, if_pos this]
        · repeat (with_reducible first | refine e_nat ?_ | refine then_ret ?_ | refine loop_ret ?_)
          refine fin_val ?_
          have := val_lt_of (by lia) (limbs_dig hB n) (limbs_dig hB m) hlen.symm hy hx he.symm (by lia)
          rw [val_limbs hB, val_limbs hB] at this
          rw [cmp, if_neg (by lia), if_pos this]; rfl
      · repeat (with_reducible first | refine b_nil ?_ | refine then_next ?_)
        refine loop_next (next_of ⟨rfl, ?_⟩)
        have hxy : x = y := Decidable.byContradiction hne
        rw [List.drop_eq_getElem_cons hj, List.drop_eq_getElem_cons (l := limbs B n) (i := j) (hlen ▸ hj), he]
        congr 1
        exact (List.getElem?_eq_some_iff.mp hx).2.trans (hxy.trans (List.getElem?_eq_some_iff.mp hy).2.symm)
    · rintro _ ⟨rfl, he⟩
      repeat (with_reducible first | refine e_nat ?_ | refine s_return ?_ | refine b_ret ?_ | refine then_next ?_ | refine then_ret ?_)
      refine fin_val ?_
      have : m = n := by rw [← val_limbs hB m, ← val_limbs hB n]; exact congrArg (val B) he
      rw [cmp, if_neg (by lia), if_neg (by lia)]; rfl
end
end CR
namespace CR
open PySem PySem.W PyProof.Rows
section
variable {prog : Program} {w : World} {K : Frag} {ad : Nat → Addr}
theorem add_key (P : Prg K ad) {k m n s : Nat} {bs : Base} {L : Addr} {q : Str} {cd : Value} (hB : 2 ≤ 2 ^ k) (hk : k ≤ 1000) (hnm : (limbs (2 ^ k) n).length ≤ (limbs (2 ^ k) m).length) (hm : (limbs (2 ^ k) m).length ≤ 1000) (hs : m + n = s) :
    WB ⟨prog, w, K, bs, envF (scopeOf 6) q L (ad 6) cd, 0, fun _ => True⟩ (bodyOf 6).tail ⟨[(Nm "a", .pv (row (limbs (2 ^ k) m))), (Nm "b", .pv (row (limbs (2 ^ k) n))), (Nm "w", pn k)], []⟩ (Fin 0 fun r _ => r = .fresh ((limbs (2 ^ k) s).map pnat)) := by
  obtain ⟨xs, hxs⟩ : ∃ xs, xs = limbs (2 ^ k) m := ⟨_, rfl⟩
  obtain ⟨ys, hys⟩ : ∃ ys, ys = limbs (2 ^ k) n := ⟨_, rfl⟩
  rw [← hxs, ← hys]
  rw [← hxs, ← hys] at hnm
  rw [← hxs] at hm
  have hdx : Dig (2 ^ k) xs := hxs ▸ limbs_dig hB m
  have hdy : Dig (2 ^ k) ys := hys ▸ limbs_dig hB n
  refine b_next ?_
  repeat (with_reducible first | refine l_cons ?_ | refine l_nil ?_ | refine x_sw3 ?_ | refine e_list ?_ | refine ⟨[], rfl, by decide, ?_⟩)
  refine .inr ?_
  repeat (with_reducible first | (refine x_name ?_; refine ⟨_, by with_unfolding_all rfl, ?_⟩) | refine e_nat ?_ | refine l_cons ?_ | refine l_nil ?_ | refine e_bin ?_ | refine ⟨rfl, ?_⟩ | refine sto_l ?_ | refine ⟨_, rfl, ?_⟩ | refine e_call ?_ | refine ⟨_, _, _, by with_unfolding_all rfl, by (first | assumption | (with_unfolding_all exact Nat.le_of_ble_eq_true rfl) | (apply Nat.le_trans; assumption; with_unfolding_all exact Nat.le_of_ble_eq_true rfl) | (apply Nat.lt_of_le_of_lt; assumption; with_unfolding_all exact Nat.le_of_ble_eq_true rfl) | ((try simp only [List.length_map, List.length_append, List.length_cons, List.length_nil, List.length_set, List.length_replicate, List.length_take, List.length_drop, List.length_reverse]); first | assumption | lia) | decide), ?_⟩ | refine ⟨_, _, _, rfl, ?_⟩ | refine b_for ?_ | refine s_for ?_ | refine x_range1 ?_ | refine k_bi ?_ | refine x_len ?_ | (refine sub_nn ?_ ?_; (first | assumption | (with_unfolding_all exact Nat.le_of_ble_eq_true rfl) | (apply Nat.le_trans; assumption; with_unfolding_all exact Nat.le_of_ble_eq_true rfl) | (apply Nat.lt_of_le_of_lt; assumption; with_unfolding_all exact Nat.le_of_ble_eq_true rfl) | ((try simp only [List.length_map, List.length_append, List.length_cons, List.length_nil, List.length_set, List.length_replicate, List.length_take, List.length_drop, List.length_reverse]); first | assumption | lia) | decide)) | (refine shl1_nn ?_ ?_; (first | assumption | (with_unfolding_all exact Nat.le_of_ble_eq_true rfl) | (apply Nat.le_trans; assumption; with_unfolding_all exact Nat.le_of_ble_eq_true rfl) | (apply Nat.lt_of_le_of_lt; assumption; with_unfolding_all exact Nat.le_of_ble_eq_true rfl) | ((try simp only [List.length_map, List.length_append, List.length_cons, List.length_nil, List.length_set, List.length_replicate, List.length_take, List.length_drop, List.length_reverse]); first | assumption | lia) | decide)) | refine b_len (by assumption) ?_ | refine b_range (by assumption) ?_ | refine ⟨by (first | assumption | (with_unfolding_all exact Nat.le_of_ble_eq_true rfl) | (apply Nat.le_trans; assumption; with_unfolding_all exact Nat.le_of_ble_eq_true rfl) | (apply Nat.lt_of_le_of_lt; assumption; with_unfolding_all exact Nat.le_of_ble_eq_true rfl) | ((try simp only [List.length_map, List.length_append, List.length_cons, List.length_nil, List.length_set, List.length_replicate, List.length_take, List.length_drop, List.length_reverse]); first | assumption | lia) | decide), ?_⟩)
  let I1 : Nat → St → Prop := fun j σ => ∃ ds c, σ = ⟨[(Nm "a", .pv (row xs)), (Nm "b", .pv (row ys)), (Nm "w", pn k), (Nm "mask", pn (2 ^ k - 1)), (Nm "carry", pn c), (Nm "found", .own 0)], [some (ds.map pnat)]⟩ ∧ Dig (2 ^ k) ds ∧ ds.length = j ∧ c ≤ 1 ∧ val (2 ^ k) ds + (2 ^ k) ^ j * c = val (2 ^ k) (xs.take j) + val (2 ^ k) (ys.take j)
  refine for_upto I1 ⟨[], 0, rfl, .nil, rfl, by lia, by simp [val]⟩ ?_ ?_ (Nat.zero_le _)
  · rintro j _ hj _ ⟨ds, c, rfl, hd, hl, hc1, hv⟩ bs' _ _
    obtain ⟨x, hx⟩ : ∃ x, xs[j]? = some x := ⟨_, List.getElem?_eq_getElem (by lia)⟩
    obtain ⟨y, hy⟩ : ∃ y, ys[j]? = some y := ⟨_, List.getElem?_eq_getElem (by lia)⟩
    have hxB := hdx.get hx
    have hyB := hdy.get hy
    repeat (with_reducible first | (refine x_name ?_; refine ⟨_, by with_unfolding_all rfl, ?_⟩) | refine e_bin ?_ | refine ⟨rfl, ?_⟩ | refine sto_l ?_ | refine ⟨_, rfl, ?_⟩ | refine e_sub ?_ | refine x_ix ?_ | refine add_nn ?_ | refine and_mask ?_ | refine ⟨_, _, _, _, by with_unfolding_all rfl, by (first | assumption | with_unfolding_all assumption), by (first | assumption | (with_unfolding_all exact Nat.le_of_ble_eq_true rfl) | (apply Nat.le_trans; assumption; with_unfolding_all exact Nat.le_of_ble_eq_true rfl) | (apply Nat.lt_of_le_of_lt; assumption; with_unfolding_all exact Nat.le_of_ble_eq_true rfl) | ((try simp only [List.length_map, List.length_append, List.length_cons, List.length_nil, List.length_set, List.length_replicate, List.length_take, List.length_drop, List.length_reverse]); first | assumption | lia) | decide), ?_⟩ | refine x_aug ?_ | refine s_expr ?_ | refine b_nil ?_ | refine b_next ?_ | refine iadd_nn ?_ | refine ishr_nn ?_ | refine x_append ?_ | refine own_q ?_ | (refine push_p ?_; refine ⟨_, by with_unfolding_all rfl, by (first | assumption | (with_unfolding_all exact Nat.le_of_ble_eq_true rfl) | (apply Nat.le_trans; assumption; with_unfolding_all exact Nat.le_of_ble_eq_true rfl) | (apply Nat.lt_of_le_of_lt; assumption; with_unfolding_all exact Nat.le_of_ble_eq_true rfl) | ((try simp only [List.length_map, List.length_append, List.length_cons, List.length_nil, List.length_set, List.length_replicate, List.length_take, List.length_drop, List.length_reverse]); first | assumption | lia) | decide), ?_⟩) | refine ⟨⟨_, by with_unfolding_all rfl⟩, ?_⟩ | refine xa_name ?_)
    refine loop_next (next_of ⟨_, _, rfl, hd.snoc (Nat.mod_lt _ (by lia)), by simp [hl], ?_, ?_⟩)
    · exact Nat.le_of_lt_succ ((Nat.div_lt_iff_lt_mul (by lia)).mpr (by lia))
    · rw [push_val hl hv, val_take _ hx, val_take _ hy, Nat.mul_add]; lia
  · rintro _ ⟨ds, c, rfl, hd, hl, hc1, hv⟩
    rw [List.take_length] at hv
    repeat (with_reducible first | (refine x_name ?_; refine ⟨_, by with_unfolding_all rfl, ?_⟩) | refine l_cons ?_ | refine l_nil ?_ | refine ⟨rfl, ?_⟩ | refine e_call ?_ | refine ⟨_, _, _, by with_unfolding_all rfl, by (first | assumption | (with_unfolding_all exact Nat.le_of_ble_eq_true rfl) | (apply Nat.le_trans; assumption; with_unfolding_all exact Nat.le_of_ble_eq_true rfl) | (apply Nat.lt_of_le_of_lt; assumption; with_unfolding_all exact Nat.le_of_ble_eq_true rfl) | ((try simp only [List.length_map, List.length_append, List.length_cons, List.length_nil, List.length_set, List.length_replicate, List.length_take, List.length_drop, List.length_reverse]); first | assumption | lia) | decide), ?_⟩ | refine ⟨_, _, rfl, ?_⟩ | refine b_for ?_ | refine then_next ?_ | refine s_for ?_ | refine x_range2 ?_ | refine k_bi ?_ | refine x_len ?_ | refine b_len (by assumption) ?_ | refine b_range (by assumption) ?_ | refine ⟨by (first | assumption | (with_unfolding_all exact Nat.le_of_ble_eq_true rfl) | (apply Nat.le_trans; assumption; with_unfolding_all exact Nat.le_of_ble_eq_true rfl) | (apply Nat.lt_of_le_of_lt; assumption; with_unfolding_all exact Nat.le_of_ble_eq_true rfl) | ((try simp only [List.length_map, List.length_append, List.length_cons, List.length_nil, List.length_set, List.length_replicate, List.length_take, List.length_drop, List.length_reverse]); first | assumption | lia) | decide), ?_⟩)
    let I2 : Nat → St → Prop := fun j σ => ∃ ds c, σ = ⟨[(Nm "a", .pv (row xs)), (Nm "b", .pv (row ys)), (Nm "w", pn k), (Nm "mask", pn (2 ^ k - 1)), (Nm "carry", pn c), (Nm "found", .own 0)], [some (ds.map pnat)]⟩ ∧ Dig (2 ^ k) ds ∧ ds.length = j ∧ c ≤ 1 ∧ val (2 ^ k) ds + (2 ^ k) ^ j * c = val (2 ^ k) (xs.take j) + val (2 ^ k) ys
    refine for_upto I2 ⟨ds, c, rfl, hd, hl, hc1, hv⟩ ?_ ?_ hnm
    · rintro j _ hj _ ⟨ds, c, rfl, hd, hl, hc1, hv⟩ bs' _ _
      obtain ⟨x, hx⟩ : ∃ x, xs[j]? = some x := ⟨_, List.getElem?_eq_getElem (by lia)⟩
      have hxB := hdx.get hx
      repeat (with_reducible first | (refine x_name ?_; refine ⟨_, by with_unfolding_all rfl, ?_⟩) | refine e_bin ?_ | refine ⟨rfl, ?_⟩ | refine sto_l ?_ | refine ⟨_, rfl, ?_⟩ | refine e_sub ?_ | refine x_ix ?_ | refine and_mask ?_ | refine ⟨_, _, _, _, by with_unfolding_all rfl, by (first | assumption | with_unfolding_all assumption), by (first | assumption | (with_unfolding_all exact Nat.le_of_ble_eq_true rfl) | (apply Nat.le_trans; assumption; with_unfolding_all exact Nat.le_of_ble_eq_true rfl) | (apply Nat.lt_of_le_of_lt; assumption; with_unfolding_all exact Nat.le_of_ble_eq_true rfl) | ((try simp only [List.length_map, List.length_append, List.length_cons, List.length_nil, List.length_set, List.length_replicate, List.length_take, List.length_drop, List.length_reverse]); first | assumption | lia) | decide), ?_⟩ | refine x_aug ?_ | refine s_expr ?_ | refine b_nil ?_ | refine b_next ?_ | refine iadd_nn ?_ | refine ishr_nn ?_ | refine x_append ?_ | refine own_q ?_ | (refine push_p ?_; refine ⟨_, by with_unfolding_all rfl, by (first | assumption | (with_unfolding_all exact Nat.le_of_ble_eq_true rfl) | (apply Nat.le_trans; assumption; with_unfolding_all exact Nat.le_of_ble_eq_true rfl) | (apply Nat.lt_of_le_of_lt; assumption; with_unfolding_all exact Nat.le_of_ble_eq_true rfl) | ((try simp only [List.length_map, List.length_append, List.length_cons, List.length_nil, List.length_set, List.length_replicate, List.length_take, List.length_drop, List.length_reverse]); first | assumption | lia) | decide), ?_⟩) | refine ⟨⟨_, by with_unfolding_all rfl⟩, ?_⟩ | refine xa_name ?_)
      refine loop_next (next_of ⟨_, _, rfl, hd.snoc (Nat.mod_lt _ (by lia)), by simp [hl], ?_, ?_⟩)
      · exact Nat.le_of_lt_succ ((Nat.div_lt_iff_lt_mul (by lia)).mpr (by lia))
      · rw [push_val hl hv, val_take _ hx]; lia
    · rintro _ ⟨ds, c, rfl, hd, hl, hc1, hv⟩
      rw [List.take_length] at hv
      have hvs : val (2 ^ k) ds + (2 ^ k) ^ ds.length * c = s := by rw [hl, hv, hxs, hys, val_limbs hB, val_limbs hB, hs]
      repeat (with_reducible first | (refine x_name ?_; refine ⟨_, by with_unfolding_all rfl, ?_⟩) | refine e_nat ?_ | refine ⟨_, rfl, ?_⟩ | refine t_cmp ?_ | refine s_if ?_ | refine b_if ?_ | refine then_next ?_ | refine gt_nn ?_)
      refine ite_d (fun h0 => ?_) (fun h0 => ?_)
      · repeat (with_reducible first | (refine x_name ?_; refine ⟨_, by with_unfolding_all rfl, ?_⟩) | refine ⟨rfl, ?_⟩ | refine s_return ?_ | refine s_expr ?_ | refine b_nil ?_ | refine b_ret ?_ | refine b_next ?_ | refine then_next ?_ | refine then_ret ?_ | refine x_append ?_ | refine own_q ?_ | (refine push_p ?_; refine ⟨_, by with_unfolding_all rfl, by (first | assumption | (with_unfolding_all exact Nat.le_of_ble_eq_true rfl) | (apply Nat.le_trans; assumption; with_unfolding_all exact Nat.le_of_ble_eq_true rfl) | (apply Nat.lt_of_le_of_lt; assumption; with_unfolding_all exact Nat.le_of_ble_eq_true rfl) | ((try simp only [List.length_map, List.length_append, List.length_cons, List.length_nil, List.length_set, List.length_replicate, List.length_take, List.length_drop, List.length_reverse]); first | assumption | lia) | decide), ?_⟩) | refine ⟨⟨_, by with_unfolding_all rfl⟩, ?_⟩)
        refine fin_fresh rfl ?_
        have hc' : c = 1 := by lia
        rw [limbs_top hB (hd.snoc (show c < 2 ^ k by lia)) (.inr ?_) (by rw [val_snoc]; exact hvs)]
        rw [hc', Nat.mul_one] at hvs
        simp only [List.length_append, List.length_cons, List.length_nil, Nat.zero_add, Nat.add_sub_cancel]
        lia
      · repeat (with_reducible first | (refine x_name ?_; refine ⟨_, by with_unfolding_all rfl, ?_⟩) | refine s_return ?_ | refine b_nil ?_ | refine b_ret ?_ | refine then_next ?_ | refine then_ret ?_)
        refine fin_fresh rfl ?_
        have hc' : c = 0 := by lia
        rw [hc', Nat.mul_zero, Nat.add_zero] at hvs
        rw [limbs_top hB hd ?_ hvs]
        by_cases hm0 : m = 0
        · subst hm0
          rw [limbs_zero] at hxs
          subst hxs
          exact .inl (List.length_eq_zero_iff.mp hl)
        · have := limbs_ge hB hm0
          rw [← hxs, ← hl] at this
          exact .inr (by lia)
theorem add_ok (P : Prg K ad) {k m n : Nat} (hk : 1 ≤ k ∧ k ≤ 1000) (hm : (limbs (2 ^ k) m).length ≤ 1000) (hn : (limbs (2 ^ k) n).length ≤ 1000) : FCall prog w K 1 (ad 6) [] [row (limbs (2 ^ k) m), row (limbs (2 ^ k) n), .int k] (fun r _ => r = .fresh ((limbs (2 ^ k) (m + n)).map pnat)) := by
  have hB := two_le_pow hk.1
  refine enter (P.fn 6 (by decide)) [Nm "a", Nm "b", Nm "w"] (by (intro nm q doc pm an cdv ct vals h; obtain ⟨a, b, c, e⟩ := len3 h; subst e; with_unfolding_all rfl)) (fun _ => rfl) (by decide) rfl [(Nm "a", .pv (row (limbs (2 ^ k) m))), (Nm "b", .pv (row (limbs (2 ^ k) n))), (Nm "w", pn k)] [] rfl rfl ?_
  intro bs L q cd hl hc
  refine let C : Cx := _; let Z : RF → St → Prop := _; (show WB C _ _ Z from ?_)
  refine b_mid (fun σ => ∃ m' n', (limbs (2 ^ k) n').length ≤ (limbs (2 ^ k) m').length ∧ (limbs (2 ^ k) m').length ≤ 1000 ∧ m' + n' = m + n ∧ Less σ ⟨[(Nm "a", .pv (row (limbs (2 ^ k) m'))), (Nm "b", .pv (row (limbs (2 ^ k) n'))), (Nm "w", pn k)], []⟩) ?_ (fun σ ⟨m', n', h1, h2, h3, h4⟩ => W.less h4 (add_key P hB hk.2 h1 h2 h3))
  repeat (with_reducible first | (refine x_name ?_; refine ⟨_, by with_unfolding_all rfl, ?_⟩) | refine l_cons ?_ | refine l_nil ?_ | refine ⟨_, rfl, ?_⟩ | refine t_cmp ?_ | refine e_call ?_ | refine ⟨_, _, _, by with_unfolding_all rfl, by (first | assumption | (with_unfolding_all exact Nat.le_of_ble_eq_true rfl) | (apply Nat.le_trans; assumption; with_unfolding_all exact Nat.le_of_ble_eq_true rfl) | (apply Nat.lt_of_le_of_lt; assumption; with_unfolding_all exact Nat.le_of_ble_eq_true rfl) | ((try simp only [List.length_map, List.length_append, List.length_cons, List.length_nil, List.length_set, List.length_replicate, List.length_take, List.length_drop, List.length_reverse]); first | assumption | lia) | decide), ?_⟩ | refine s_if ?_ | refine k_bi ?_ | refine x_len ?_ | refine lt_nn ?_ | refine b_len (by assumption) ?_)
  refine ite_d (fun h => ?_) (fun h => ?_)
  · repeat (with_reducible first | (refine x_name ?_; refine ⟨_, by with_unfolding_all rfl, ?_⟩) | refine l_cons ?_ | refine l_nil ?_ | refine ⟨rfl, ?_⟩ | refine sto_l ?_ | refine x_sw2 ?_ | refine ⟨_, _, rfl, ?_⟩ | refine b_nil ?_ | refine b_next ?_)
    exact ⟨n, m, Nat.le_of_lt h, hn, Nat.add_comm n m, rfl, has_lookup (by repeat (first | exact Has.nil | refine Has.cons (by with_unfolding_all rfl) ?_))⟩
  · repeat (with_reducible first | refine ⟨rfl, ?_⟩ | refine b_nil ?_)
    exact ⟨m, n, by lia, hm, rfl, rfl, has_lookup (by repeat (first | exact Has.nil | refine Has.cons (by with_unfolding_all rfl) ?_))⟩
end
end CR
namespace CR
open PySem PySem.W PyProof.Rows
section
variable {prog : Program} {w : World} {K : Frag} {ad : Nat → Addr}
theorem divrem_limb_ok (P : Prg K ad) {k m d : Nat} (hk : 1 ≤ k ∧ k ≤ 20) (hm : (limbs (2 ^ k) m).length ≤ 1000) (hd : 0 < d ∧ d < 2 ^ k) : FCall prog w K 2 (ad 7) [] [row (limbs (2 ^ k) m), .int d, .int k] (fun r _ => r = .val (.tup [row (limbs (2 ^ k) (m / d)), .int (m % d : Nat)])) := by
  have hB := two_le_pow hk.1
  have hB2 : 2 ^ k ≤ 2 ^ 20 := Nat.pow_le_pow_right (by decide) hk.2
  obtain ⟨xs, hxs⟩ : ∃ xs, xs = limbs (2 ^ k) m := ⟨_, rfl⟩
  rw [← hxs]
  rw [← hxs] at hm
  have hdx : Dig (2 ^ k) xs := hxs ▸ limbs_dig hB m
  refine enter (P.fn 7 (by decide)) [Nm "a", Nm "limb", Nm "w"] (by (intro nm q doc pm an cdv ct vals h; obtain ⟨a, b, c, e⟩ := len3 h; subst e; with_unfolding_all rfl)) (fun _ => rfl) (by decide) rfl [(Nm "a", .pv (row xs)), (Nm "limb", pn d), (Nm "w", pn k)] [] rfl rfl ?_
  intro bs L q cd hl hc
  refine let C : Cx := _; let Z : RF → St → Prop := _; (show WB C _ _ Z from ?_)
  refine b_then ?_
  repeat (with_reducible first | (refine x_name ?_; refine ⟨_, by with_unfolding_all rfl, ?_⟩) | refine e_nat ?_ | refine l_cons ?_ | refine l_nil ?_ | refine e_bin ?_ | refine ⟨_, rfl, ?_⟩ | refine t_cmp ?_ | refine x_sw2 ?_ | refine s_if ?_ | refine b_nil ?_ | refine b_next ?_ | refine then_next ?_ | (refine ite_f ?_ ?_; (first | assumption | (with_unfolding_all exact Nat.le_of_ble_eq_true rfl) | (apply Nat.le_trans; assumption; with_unfolding_all exact Nat.le_of_ble_eq_true rfl) | (apply Nat.lt_of_le_of_lt; assumption; with_unfolding_all exact Nat.le_of_ble_eq_true rfl) | ((try simp only [List.length_map, List.length_append, List.length_cons, List.length_nil, List.length_set, List.length_replicate, List.length_take, List.length_drop, List.length_reverse]); first | assumption | lia) | decide)) | refine eq_nn ?_ | refine e_list ?_ | refine ⟨[_], by with_unfolding_all rfl, by (first | assumption | (with_unfolding_all exact Nat.le_of_ble_eq_true rfl) | (apply Nat.le_trans; assumption; with_unfolding_all exact Nat.le_of_ble_eq_true rfl) | (apply Nat.lt_of_le_of_lt; assumption; with_unfolding_all exact Nat.le_of_ble_eq_true rfl) | ((try simp only [List.length_map, List.length_append, List.length_cons, List.length_nil, List.length_set, List.length_replicate, List.length_take, List.length_drop, List.length_reverse]); first | assumption | lia) | decide), ?_⟩)
  refine .inl ?_
  repeat (with_reducible first | (refine x_name ?_; refine ⟨_, by with_unfolding_all rfl, ?_⟩) | refine l_cons ?_ | refine l_nil ?_ | refine e_call ?_ | refine ⟨_, _, _, by with_unfolding_all rfl, by (first | assumption | (with_unfolding_all exact Nat.le_of_ble_eq_true rfl) | (apply Nat.le_trans; assumption; with_unfolding_all exact Nat.le_of_ble_eq_true rfl) | (apply Nat.lt_of_le_of_lt; assumption; with_unfolding_all exact Nat.le_of_ble_eq_true rfl) | ((try simp only [List.length_map, List.length_append, List.length_cons, List.length_nil, List.length_set, List.length_replicate, List.length_take, List.length_drop, List.length_reverse]); first | assumption | lia) | decide), ?_⟩ | refine k_bi ?_ | refine x_len ?_ | (refine mul_zero ?_ ?_; (first | assumption | (with_unfolding_all exact Nat.le_of_ble_eq_true rfl) | (apply Nat.le_trans; assumption; with_unfolding_all exact Nat.le_of_ble_eq_true rfl) | (apply Nat.lt_of_le_of_lt; assumption; with_unfolding_all exact Nat.le_of_ble_eq_true rfl) | ((try simp only [List.length_map, List.length_append, List.length_cons, List.length_nil, List.length_set, List.length_replicate, List.length_take, List.length_drop, List.length_reverse]); first | assumption | lia) | decide)) | refine b_len (by assumption) ?_)
  refine .inr ?_
  repeat (with_reducible first | (refine x_name ?_; refine ⟨_, by with_unfolding_all rfl, ?_⟩) | refine e_nat ?_ | refine l_cons ?_ | refine l_nil ?_ | refine e_bin ?_ | refine ⟨rfl, ?_⟩ | refine sto_l ?_ | refine e_call ?_ | refine ⟨_, _, _, by with_unfolding_all rfl, by (first | assumption | (with_unfolding_all exact Nat.le_of_ble_eq_true rfl) | (apply Nat.le_trans; assumption; with_unfolding_all exact Nat.le_of_ble_eq_true rfl) | (apply Nat.lt_of_le_of_lt; assumption; with_unfolding_all exact Nat.le_of_ble_eq_true rfl) | ((try simp only [List.length_map, List.length_append, List.length_cons, List.length_nil, List.length_set, List.length_replicate, List.length_take, List.length_drop, List.length_reverse]); first | assumption | lia) | decide), ?_⟩ | refine ⟨_, _, rfl, ?_⟩ | refine b_for ?_ | refine s_for ?_ | refine x_rangedown ?_ | refine k_bi ?_ | refine x_len ?_ | refine sub_ii ?_ | refine e_neg1 ?_ | refine b_len (by assumption) ?_ | refine b_range (by assumption) ?_)
  refine ⟨_, xs.length, rfl, ⟨by lia, by lia⟩, ?_⟩
  let I1 : Nat → St → Prop := fun j σ => ∃ qs r, σ = ⟨[(Nm "a", .pv (row xs)), (Nm "limb", pn d), (Nm "w", pn k), (Nm "rest", pn r), (Nm "found", .own 0)], [some (qs.map pnat)]⟩ ∧ Dig (2 ^ k) qs ∧ qs.length = xs.length ∧ r < d ∧ val (2 ^ k) (xs.drop j) = val (2 ^ k) (qs.drop j) * d + r
  refine for_down I1
    ⟨List.replicate xs.length 0, 0, rfl, Dig.zeros (by lia) _, List.length_replicate, hd.1, by rw [List.drop_length, List.drop_of_length_le (by simp)]; simp [val]⟩ ?_ ?_
  · rintro j hj _ ⟨qs, r, rfl, hq, hql, hr, hv⟩ bs' _ _
    obtain ⟨x, hx⟩ : ∃ x, xs[j]? = some x := ⟨_, List.getElem?_eq_getElem hj⟩
    have hxB := hdx.get hx
    have hlt : r * 2 ^ k + x < d * 2 ^ k := by
      have : (r + 1) * 2 ^ k ≤ d * 2 ^ k := Nat.mul_le_mul_right _ hr
      rw [Nat.add_mul, Nat.one_mul] at this; lia
    have hqB : (r * 2 ^ k + x) / d < 2 ^ k := (Nat.div_lt_iff_lt_mul hd.1).mpr (by rw [Nat.mul_comm d] at hlt; exact hlt)
    repeat (with_reducible first | (refine x_name ?_; refine ⟨_, by with_unfolding_all rfl, ?_⟩) | refine e_bin ?_ | refine ⟨rfl, ?_⟩ | refine sto_l ?_ | refine ⟨_, rfl, ?_⟩ | refine e_sub ?_ | refine x_ix ?_ | refine ⟨_, _, _, _, by with_unfolding_all rfl, by (first | assumption | with_unfolding_all assumption), by (first | assumption | (with_unfolding_all exact Nat.le_of_ble_eq_true rfl) | (apply Nat.le_trans; assumption; with_unfolding_all exact Nat.le_of_ble_eq_true rfl) | (apply Nat.lt_of_le_of_lt; assumption; with_unfolding_all exact Nat.le_of_ble_eq_true rfl) | ((try simp only [List.length_map, List.length_append, List.length_cons, List.length_nil, List.length_set, List.length_replicate, List.length_take, List.length_drop, List.length_reverse]); first | assumption | lia) | decide), ?_⟩ | refine x_assign ?_ | refine x_setitem ?_ | refine x_aug ?_ | refine b_nil ?_ | refine b_next ?_ | (refine shl_nn ?_ ?_ ?_; (first | assumption | (with_unfolding_all exact Nat.le_of_ble_eq_true rfl) | (apply Nat.le_trans; assumption; with_unfolding_all exact Nat.le_of_ble_eq_true rfl) | (apply Nat.lt_of_le_of_lt; assumption; with_unfolding_all exact Nat.le_of_ble_eq_true rfl) | ((try simp only [List.length_map, List.length_append, List.length_cons, List.length_nil, List.length_set, List.length_replicate, List.length_take, List.length_drop, List.length_reverse]); first | assumption | lia) | decide); (first | assumption | (with_unfolding_all exact Nat.le_of_ble_eq_true rfl) | (apply Nat.le_trans; assumption; with_unfolding_all exact Nat.le_of_ble_eq_true rfl) | (apply Nat.lt_of_le_of_lt; assumption; with_unfolding_all exact Nat.le_of_ble_eq_true rfl) | ((try simp only [List.length_map, List.length_append, List.length_cons, List.length_nil, List.length_set, List.length_replicate, List.length_take, List.length_drop, List.length_reverse]); first | assumption | lia) | decide)) | (refine div_nn ?_ ?_ ?_; (first | assumption | (with_unfolding_all exact Nat.le_of_ble_eq_true rfl) | (apply Nat.le_trans; assumption; with_unfolding_all exact Nat.le_of_ble_eq_true rfl) | (apply Nat.lt_of_le_of_lt; assumption; with_unfolding_all exact Nat.le_of_ble_eq_true rfl) | ((try simp only [List.length_map, List.length_append, List.length_cons, List.length_nil, List.length_set, List.length_replicate, List.length_take, List.length_drop, List.length_reverse]); first | assumption | lia) | decide); (first | assumption | (with_unfolding_all exact Nat.le_of_ble_eq_true rfl) | (apply Nat.le_trans; assumption; with_unfolding_all exact Nat.le_of_ble_eq_true rfl) | (apply Nat.lt_of_le_of_lt; assumption; with_unfolding_all exact Nat.le_of_ble_eq_true rfl) | ((try simp only [List.length_map, List.length_append, List.length_cons, List.length_nil, List.length_set, List.length_replicate, List.length_take, List.length_drop, List.length_reverse]); first | assumption | lia) | decide)) | (refine orh_nn ?_ ?_; (first | assumption | (with_unfolding_all exact Nat.le_of_ble_eq_true rfl) | (apply Nat.le_trans; assumption; with_unfolding_all exact Nat.le_of_ble_eq_true rfl) | (apply Nat.lt_of_le_of_lt; assumption; with_unfolding_all exact Nat.le_of_ble_eq_true rfl) | ((try simp only [List.length_map, List.length_append, List.length_cons, List.length_nil, List.length_set, List.length_replicate, List.length_take, List.length_drop, List.length_reverse]); first | assumption | lia) | decide)) | (refine imod_nn ?_ ?_; (first | assumption | (with_unfolding_all exact Nat.le_of_ble_eq_true rfl) | (apply Nat.le_trans; assumption; with_unfolding_all exact Nat.le_of_ble_eq_true rfl) | (apply Nat.lt_of_le_of_lt; assumption; with_unfolding_all exact Nat.le_of_ble_eq_true rfl) | ((try simp only [List.length_map, List.length_append, List.length_cons, List.length_nil, List.length_set, List.length_replicate, List.length_take, List.length_drop, List.length_reverse]); first | assumption | lia) | decide)) | refine own_q ?_ | (refine set_p ?_; refine ⟨_, by with_unfolding_all rfl, by (first | assumption | (with_unfolding_all exact Nat.le_of_ble_eq_true rfl) | (apply Nat.le_trans; assumption; with_unfolding_all exact Nat.le_of_ble_eq_true rfl) | (apply Nat.lt_of_le_of_lt; assumption; with_unfolding_all exact Nat.le_of_ble_eq_true rfl) | ((try simp only [List.length_map, List.length_append, List.length_cons, List.length_nil, List.length_set, List.length_replicate, List.length_take, List.length_drop, List.length_reverse]); first | assumption | lia) | decide), by (first | assumption | (with_unfolding_all exact Nat.le_of_ble_eq_true rfl) | (apply Nat.le_trans; assumption; with_unfolding_all exact Nat.le_of_ble_eq_true rfl) | (apply Nat.lt_of_le_of_lt; assumption; with_unfolding_all exact Nat.le_of_ble_eq_true rfl) | ((try simp only [List.length_map, List.length_append, List.length_cons, List.length_nil, List.length_set, List.length_replicate, List.length_take, List.length_drop, List.length_reverse]); first | assumption | lia) | decide), ?_⟩) | refine ⟨⟨_, by with_unfolding_all rfl⟩, ?_⟩ | refine xa_name ?_)
    refine loop_next (next_of ⟨_, _, rfl, hq.set j hqB, by rw [List.length_set]; exact hql, Nat.mod_lt _ hd.1, ?_⟩)
    rw [val_drop _ hx, hv, drop_set (by lia), val]
    have := Nat.mod_add_div (r * 2 ^ k + x) d
    rw [Nat.mul_comm d] at this
    rw [Nat.add_mul, Nat.mul_add, Nat.mul_comm (2 ^ k) r, ← Nat.mul_assoc]
    lia
  · rintro _ ⟨qs, r, rfl, hq, hql, hr, hv⟩
    rw [List.drop_zero, List.drop_zero, hxs, val_limbs hB] at hv
    have e1 : m / d = val (2 ^ k) qs := by
      rw [hv, Nat.mul_comm, Nat.mul_add_div hd.1, Nat.div_eq_of_lt hr, Nat.add_zero]
    have e2 : m % d = r := by rw [hv, Nat.mul_comm, Nat.mul_add_mod, Nat.mod_eq_of_lt hr]
    refine then_next (W.freeze (k := 0) rfl (by rw [hl]; exact Nat.zero_le _) (W.state [(Nm "found", .pv (row qs)), (Nm "rest", pn r)] [none] ?_))
    repeat (with_reducible first | (refine x_name ?_; refine ⟨_, by with_unfolding_all rfl, ?_⟩) | refine l_cons ?_ | refine l_nil ?_ | refine e_call ?_ | refine s_return ?_ | refine b_ret ?_ | refine k_ref (Prg.keep (by assumption) (by decide)) ?_ | refine e_tuple ?_ | (refine e_glob (g_normal (by assumption)) ?_))
    refine call_v (normal_ok P qs (by lia)) ?_
    repeat (with_reducible first | (refine x_name ?_; refine ⟨_, by with_unfolding_all rfl, ?_⟩) | refine l_cons ?_ | refine l_nil ?_ | refine then_ret ?_ | refine ⟨[_, _], by with_unfolding_all rfl, by (first | assumption | (with_unfolding_all exact Nat.le_of_ble_eq_true rfl) | (apply Nat.le_trans; assumption; with_unfolding_all exact Nat.le_of_ble_eq_true rfl) | (apply Nat.lt_of_le_of_lt; assumption; with_unfolding_all exact Nat.le_of_ble_eq_true rfl) | ((try simp only [List.length_map, List.length_append, List.length_cons, List.length_nil, List.length_set, List.length_replicate, List.length_take, List.length_drop, List.length_reverse]); first | assumption | lia) | decide), ?_⟩)
    refine fin_val ?_
    rw [e1, e2, strip_limbs hB hq]

theorem shift_left_ok (P : Prg K ad) {k m n : Nat} (hk : 1 ≤ k ∧ k ≤ 20) (hm : (limbs (2 ^ k) m).length ≤ 1000) (hn : n < k) : FCall prog w K 1 (ad 8) [] [row (limbs (2 ^ k) m), .int n, .int k] (fun r _ => r = .fresh ((limbs (2 ^ k) (m * 2 ^ n)).map pnat)) := by
  have hB := two_le_pow hk.1
  have hB2 : 2 ^ k ≤ 2 ^ 20 := Nat.pow_le_pow_right (by decide) hk.2
  have hN : 2 ^ n < 2 ^ k := Nat.pow_lt_pow_right (by decide) hn
  have hN0 := Nat.two_pow_pos n
  obtain ⟨xs, hxs⟩ : ∃ xs, xs = limbs (2 ^ k) m := ⟨_, rfl⟩
  rw [← hxs]
  rw [← hxs] at hm
  have hdx : Dig (2 ^ k) xs := hxs ▸ limbs_dig hB m
  refine enter (P.fn 8 (by decide)) [Nm "a", Nm "n", Nm "w"] (by (intro nm q doc pm an cdv ct vals h; obtain ⟨a, b, c, e⟩ := len3 h; subst e; with_unfolding_all rfl)) (fun _ => rfl) (by decide) rfl [(Nm "a", .pv (row xs)), (Nm "n", pn n), (Nm "w", pn k)] [] rfl rfl ?_
  intro bs L q cd hl hc
  refine let C : Cx := _; let Z : RF → St → Prop := _; (show WB C _ _ Z from ?_)
  refine b_then ?_
  repeat (with_reducible first | (refine x_name ?_; refine ⟨_, by with_unfolding_all rfl, ?_⟩) | refine e_nat ?_ | refine l_cons ?_ | refine l_nil ?_ | refine ⟨_, rfl, ?_⟩ | refine t_cmp ?_ | refine e_call ?_ | refine ⟨_, _, _, by with_unfolding_all rfl, by (first | assumption | (with_unfolding_all exact Nat.le_of_ble_eq_true rfl) | (apply Nat.le_trans; assumption; with_unfolding_all exact Nat.le_of_ble_eq_true rfl) | (apply Nat.lt_of_le_of_lt; assumption; with_unfolding_all exact Nat.le_of_ble_eq_true rfl) | ((try simp only [List.length_map, List.length_append, List.length_cons, List.length_nil, List.length_set, List.length_replicate, List.length_take, List.length_drop, List.length_reverse]); first | assumption | lia) | decide), ?_⟩ | refine s_if ?_ | refine k_bi ?_ | refine x_len ?_ | refine eq_nn ?_ | refine b_len (by assumption) ?_)
  refine ite_d (fun h0 => ?_) (fun h0 => ?_)
  · repeat (with_reducible first | refine l_nil ?_ | refine s_return ?_ | refine b_ret ?_ | refine e_list ?_ | refine ⟨[], rfl, by decide, ?_⟩)
    refine .inr ?_
    repeat (with_reducible first | refine then_ret ?_)
    refine fin_fresh rfl ?_
    have : m = 0 := (limbs_nil hB).mp (hxs ▸ List.length_eq_zero_iff.mp h0)
    subst this
    rw [Nat.zero_mul, limbs_zero]; rfl
  · repeat (with_reducible first | (refine x_name ?_; refine ⟨_, by with_unfolding_all rfl, ?_⟩) | refine e_nat ?_ | refine l_cons ?_ | refine l_nil ?_ | refine e_bin ?_ | refine ⟨rfl, ?_⟩ | refine sto_l ?_ | refine x_sw2 ?_ | refine x_sw3 ?_ | refine ⟨_, _, rfl, ?_⟩ | refine b_nil ?_ | refine b_next ?_ | refine then_next ?_ | (refine mod_nn ?_ ?_; (first | assumption | (with_unfolding_all exact Nat.le_of_ble_eq_true rfl) | (apply Nat.le_trans; assumption; with_unfolding_all exact Nat.le_of_ble_eq_true rfl) | (apply Nat.lt_of_le_of_lt; assumption; with_unfolding_all exact Nat.le_of_ble_eq_true rfl) | ((try simp only [List.length_map, List.length_append, List.length_cons, List.length_nil, List.length_set, List.length_replicate, List.length_take, List.length_drop, List.length_reverse]); first | assumption | lia) | decide)) | (refine div_nn ?_ ?_ ?_; (first | assumption | (with_unfolding_all exact Nat.le_of_ble_eq_true rfl) | (apply Nat.le_trans; assumption; with_unfolding_all exact Nat.le_of_ble_eq_true rfl) | (apply Nat.lt_of_le_of_lt; assumption; with_unfolding_all exact Nat.le_of_ble_eq_true rfl) | ((try simp only [List.length_map, List.length_append, List.length_cons, List.length_nil, List.length_set, List.length_replicate, List.length_take, List.length_drop, List.length_reverse]); first | assumption | lia) | decide); (first | assumption | (with_unfolding_all exact Nat.le_of_ble_eq_true rfl) | (apply Nat.le_trans; assumption; with_unfolding_all exact Nat.le_of_ble_eq_true rfl) | (apply Nat.lt_of_le_of_lt; assumption; with_unfolding_all exact Nat.le_of_ble_eq_true rfl) | ((try simp only [List.length_map, List.length_append, List.length_cons, List.length_nil, List.length_set, List.length_replicate, List.length_take, List.length_drop, List.length_reverse]); first | assumption | lia) | decide)) | refine e_list ?_ | refine ⟨[_], by with_unfolding_all rfl, by (first | assumption | (with_unfolding_all exact Nat.le_of_ble_eq_true rfl) | (apply Nat.le_trans; assumption; with_unfolding_all exact Nat.le_of_ble_eq_true rfl) | (apply Nat.lt_of_le_of_lt; assumption; with_unfolding_all exact Nat.le_of_ble_eq_true rfl) | ((try simp only [List.length_map, List.length_append, List.length_cons, List.length_nil, List.length_set, List.length_replicate, List.length_take, List.length_drop, List.length_reverse]); first | assumption | lia) | decide), ?_⟩)
    rw [Nat.div_eq_of_lt hn, Nat.mod_eq_of_lt hn]
    skip
    refine .inl ?_
    repeat (with_reducible first | (refine x_name ?_; refine ⟨_, by with_unfolding_all rfl, ?_⟩) | (refine mul_zero ?_ ?_; (first | assumption | (with_unfolding_all exact Nat.le_of_ble_eq_true rfl) | (apply Nat.le_trans; assumption; with_unfolding_all exact Nat.le_of_ble_eq_true rfl) | (apply Nat.lt_of_le_of_lt; assumption; with_unfolding_all exact Nat.le_of_ble_eq_true rfl) | ((try simp only [List.length_map, List.length_append, List.length_cons, List.length_nil, List.length_set, List.length_replicate, List.length_take, List.length_drop, List.length_reverse]); first | assumption | lia) | decide)))
    refine .inr ?_
    repeat (with_reducible first | (refine x_name ?_; refine ⟨_, by with_unfolding_all rfl, ?_⟩) | refine e_nat ?_ | refine l_cons ?_ | refine l_nil ?_ | refine e_bin ?_ | refine ⟨rfl, ?_⟩ | refine sto_l ?_ | refine ⟨_, rfl, ?_⟩ | refine ⟨_, _, _, rfl, ?_⟩ | refine b_for ?_ | refine s_for ?_ | refine it_list ?_ | (refine sub_nn ?_ ?_; (first | assumption | (with_unfolding_all exact Nat.le_of_ble_eq_true rfl) | (apply Nat.le_trans; assumption; with_unfolding_all exact Nat.le_of_ble_eq_true rfl) | (apply Nat.lt_of_le_of_lt; assumption; with_unfolding_all exact Nat.le_of_ble_eq_true rfl) | ((try simp only [List.length_map, List.length_append, List.length_cons, List.length_nil, List.length_set, List.length_replicate, List.length_take, List.length_drop, List.length_reverse]); first | assumption | lia) | decide)) | (refine shl1_nn ?_ ?_; (first | assumption | (with_unfolding_all exact Nat.le_of_ble_eq_true rfl) | (apply Nat.le_trans; assumption; with_unfolding_all exact Nat.le_of_ble_eq_true rfl) | (apply Nat.lt_of_le_of_lt; assumption; with_unfolding_all exact Nat.le_of_ble_eq_true rfl) | ((try simp only [List.length_map, List.length_append, List.length_cons, List.length_nil, List.length_set, List.length_replicate, List.length_take, List.length_drop, List.length_reverse]); first | assumption | lia) | decide)))
    let I2 : Nat → St → Prop := fun j σ => ∃ ds c, σ = ⟨[(Nm "a", .pv (row xs)), (Nm "n", pn n), (Nm "w", pn k), (Nm "few", pn n), (Nm "spots", pn 0), (Nm "mask", pn (2 ^ k - 1)), (Nm "carry", pn c), (Nm "found", .own 0)], [some (ds.map pnat)]⟩ ∧ Dig (2 ^ k) ds ∧ ds.length = j ∧ c < 2 ^ n ∧ val (2 ^ k) ds + (2 ^ k) ^ j * c = val (2 ^ k) (xs.take j) * 2 ^ n
    refine for_list I2
      ⟨[], 0, rfl, .nil, rfl, hN0, by simp [val]⟩ ?_ ?_
    · rintro j x hx _ ⟨ds, c, rfl, hd, hdl, hc1, hv⟩ bs' _ _
      have hxB := hdx.get hx
      have hjl : j < xs.length := (List.getElem?_eq_some_iff.mp hx).1
      repeat (with_reducible first | (refine x_name ?_; refine ⟨_, by with_unfolding_all rfl, ?_⟩) | refine e_bin ?_ | refine ⟨rfl, ?_⟩ | refine sto_l ?_ | refine ⟨_, rfl, ?_⟩ | refine and_mask ?_ | refine x_aug ?_ | refine s_expr ?_ | refine b_nil ?_ | refine b_next ?_ | (refine shl_nn ?_ ?_ ?_; (first | assumption | (with_unfolding_all exact Nat.le_of_ble_eq_true rfl) | (apply Nat.le_trans; assumption; with_unfolding_all exact Nat.le_of_ble_eq_true rfl) | (apply Nat.lt_of_le_of_lt; assumption; with_unfolding_all exact Nat.le_of_ble_eq_true rfl) | ((try simp only [List.length_map, List.length_append, List.length_cons, List.length_nil, List.length_set, List.length_replicate, List.length_take, List.length_drop, List.length_reverse]); first | assumption | lia) | decide); (first | assumption | (with_unfolding_all exact Nat.le_of_ble_eq_true rfl) | (apply Nat.le_trans; assumption; with_unfolding_all exact Nat.le_of_ble_eq_true rfl) | (apply Nat.lt_of_le_of_lt; assumption; with_unfolding_all exact Nat.le_of_ble_eq_true rfl) | ((try simp only [List.length_map, List.length_append, List.length_cons, List.length_nil, List.length_set, List.length_replicate, List.length_take, List.length_drop, List.length_reverse]); first | assumption | lia) | decide)) | refine ishr_nn ?_ | (refine ior_nn ?_ ?_; (first | assumption | (with_unfolding_all exact Nat.le_of_ble_eq_true rfl) | (apply Nat.le_trans; assumption; with_unfolding_all exact Nat.le_of_ble_eq_true rfl) | (apply Nat.lt_of_le_of_lt; assumption; with_unfolding_all exact Nat.le_of_ble_eq_true rfl) | ((try simp only [List.length_map, List.length_append, List.length_cons, List.length_nil, List.length_set, List.length_replicate, List.length_take, List.length_drop, List.length_reverse]); first | assumption | lia) | decide)) | refine x_append ?_ | refine own_q ?_ | (refine push_p ?_; refine ⟨_, by with_unfolding_all rfl, by (first | assumption | (with_unfolding_all exact Nat.le_of_ble_eq_true rfl) | (apply Nat.le_trans; assumption; with_unfolding_all exact Nat.le_of_ble_eq_true rfl) | (apply Nat.lt_of_le_of_lt; assumption; with_unfolding_all exact Nat.le_of_ble_eq_true rfl) | ((try simp only [List.length_map, List.length_append, List.length_cons, List.length_nil, List.length_set, List.length_replicate, List.length_take, List.length_drop, List.length_reverse]); first | assumption | lia) | decide), ?_⟩) | refine ⟨⟨_, by with_unfolding_all rfl⟩, ?_⟩ | refine xa_name ?_)
      refine loop_next (next_of ⟨_, _, rfl, hd.snoc (Nat.mod_lt _ (by lia)), by simp [hdl], ?_, ?_⟩)
      · refine (Nat.div_lt_iff_lt_mul (by lia)).mpr ?_
        have : (x + 1) * 2 ^ n ≤ 2 ^ k * 2 ^ n := Nat.mul_le_mul_right _ hxB
        rw [Nat.add_mul, Nat.one_mul] at this
        rw [Nat.mul_comm (2 ^ n)]; lia
      · rw [push_val hdl hv, val_take _ hx, Nat.add_mul, Nat.mul_assoc]
    · rintro _ ⟨ds, c, rfl, hd, hdl, hc1, hv⟩
      rw [List.take_length, hxs, val_limbs hB, ← hxs] at hv
      repeat (with_reducible first | (refine x_name ?_; refine ⟨_, by with_unfolding_all rfl, ?_⟩) | refine e_nat ?_ | refine ⟨_, rfl, ?_⟩ | refine t_cmp ?_ | refine s_if ?_ | refine b_if ?_ | refine then_next ?_ | refine gt_nn ?_)
      refine ite_d (fun h1 => ?_) (fun h1 => ?_)
      · repeat (with_reducible first | (refine x_name ?_; refine ⟨_, by with_unfolding_all rfl, ?_⟩) | refine ⟨rfl, ?_⟩ | refine s_return ?_ | refine s_expr ?_ | refine b_nil ?_ | refine b_ret ?_ | refine b_next ?_ | refine then_next ?_ | refine then_ret ?_ | refine x_append ?_ | refine own_q ?_ | (refine push_p ?_; refine ⟨_, by with_unfolding_all rfl, by (first | assumption | (with_unfolding_all exact Nat.le_of_ble_eq_true rfl) | (apply Nat.le_trans; assumption; with_unfolding_all exact Nat.le_of_ble_eq_true rfl) | (apply Nat.lt_of_le_of_lt; assumption; with_unfolding_all exact Nat.le_of_ble_eq_true rfl) | ((try simp only [List.length_map, List.length_append, List.length_cons, List.length_nil, List.length_set, List.length_replicate, List.length_take, List.length_drop, List.length_reverse]); first | assumption | lia) | decide), ?_⟩) | refine ⟨⟨_, by with_unfolding_all rfl⟩, ?_⟩)
        refine fin_fresh rfl ?_
        rw [limbs_top hB (hd.snoc (show c < 2 ^ k by lia)) (.inr ?_) (by rw [val_snoc, hdl]; exact hv)]
        simp only [List.length_append, List.length_cons, List.length_nil, Nat.zero_add, Nat.add_sub_cancel, hdl]
        rw [← hv]
        exact Nat.le_trans (Nat.le_mul_of_pos_right _ h1) (Nat.le_add_left _ _)
      · repeat (with_reducible first | (refine x_name ?_; refine ⟨_, by with_unfolding_all rfl, ?_⟩) | refine s_return ?_ | refine b_nil ?_ | refine b_ret ?_ | refine then_next ?_ | refine then_ret ?_)
        refine fin_fresh rfl ?_
        have hc' : c = 0 := by lia
        rw [hc', Nat.mul_zero, Nat.add_zero] at hv
        rw [limbs_top hB hd (.inr ?_) hv]
        rw [hdl]
        have hm0 : m ≠ 0 := fun e => h0 (by rw [hxs, e, limbs_zero]; rfl)
        have := limbs_ge hB hm0
        rw [← hxs] at this
        exact Nat.le_trans this (Nat.le_mul_of_pos_right _ hN0)
end
end CR
namespace CR
open PySem PySem.W PyProof.Rows
theorem shr_digit {k n x x' T'' : Nat} (hn : n < k) (hx : x < 2 ^ k) : (x + 2 ^ k * (x' + 2 ^ k * T'')) / 2 ^ n = (x / 2 ^ n + x' * 2 ^ (k - n)) % 2 ^ k + 2 ^ k * ((x' + 2 ^ k * T'') / 2 ^ n) := by
  have h0 := Nat.two_pow_pos n
  have e : 2 ^ k = 2 ^ n * 2 ^ (k - n) := by rw [← Nat.pow_add]; congr 1; lia
  have e1 : (x + 2 ^ k * (x' + 2 ^ k * T'')) / 2 ^ n = x / 2 ^ n + 2 ^ (k - n) * (x' + 2 ^ k * T'') := by
    conv => lhs; rw [show 2 ^ k * (x' + 2 ^ k * T'') = 2 ^ n * (2 ^ (k - n) * (x' + 2 ^ k * T'')) by rw [← Nat.mul_assoc, ← e]]
    rw [Nat.add_mul_div_left _ _ h0]
  have e2 : (x + 2 ^ k * (x' + 2 ^ k * T'')) / 2 ^ n / 2 ^ k = (x' + 2 ^ k * T'') / 2 ^ n := by
    rw [Nat.div_div_eq_div_mul, Nat.mul_comm (2 ^ n), ← Nat.div_div_eq_div_mul, Nat.add_mul_div_left _ _ (Nat.two_pow_pos k), Nat.div_eq_of_lt hx, Nat.zero_add]
  have e3 := Nat.mod_add_div ((x + 2 ^ k * (x' + 2 ^ k * T'')) / 2 ^ n) (2 ^ k)
  rw [e2] at e3
  rw [← e3]
  congr 1
  rw [e1, Nat.mul_add, ← Nat.mul_assoc, Nat.mul_comm (2 ^ (k - n)) (2 ^ k), Nat.mul_assoc, ← Nat.add_assoc, Nat.add_mul_mod_self_left, Nat.mul_comm x']
section
variable {prog : Program} {w : World} {K : Frag} {ad : Nat → Addr}
theorem shift_right_ok (P : Prg K ad) {k m n : Nat} (hk : 1 ≤ k ∧ k ≤ 20) (hm : (limbs (2 ^ k) m).length ≤ 1000) (hn : n < k) : FCall prog w K 2 (ad 9) [] [row (limbs (2 ^ k) m), .int n, .int k] (fun r _ => r = .val (row (limbs (2 ^ k) (m / 2 ^ n)))) := by
  have hB := two_le_pow hk.1
  have hB2 : 2 ^ k ≤ 2 ^ 20 := Nat.pow_le_pow_right (by decide) hk.2
  have hN0 := Nat.two_pow_pos n
  obtain ⟨xs, hxs⟩ : ∃ xs, xs = limbs (2 ^ k) m := ⟨_, rfl⟩
  rw [← hxs]
  rw [← hxs] at hm
  have hdx : Dig (2 ^ k) xs := hxs ▸ limbs_dig hB m
  refine enter (P.fn 9 (by decide)) [Nm "a", Nm "n", Nm "w"] (by (intro nm q doc pm an cdv ct vals h; obtain ⟨a, b, c, e⟩ := len3 h; subst e; with_unfolding_all rfl)) (fun _ => rfl) (by decide) rfl [(Nm "a", .pv (row xs)), (Nm "n", pn n), (Nm "w", pn k)] [] rfl rfl ?_
  intro bs L q cd hl hc
  refine let C : Cx := _; let Z : RF → St → Prop := _; (show WB C _ _ Z from ?_)
  refine b_next ?_
  repeat (with_reducible first | (refine x_name ?_; refine ⟨_, by with_unfolding_all rfl, ?_⟩) | refine l_cons ?_ | refine l_nil ?_ | refine e_bin ?_ | refine ⟨rfl, ?_⟩ | refine sto_l ?_ | refine x_sw2 ?_ | refine ⟨_, _, rfl, ?_⟩ | refine b_next ?_ | (refine mod_nn ?_ ?_; (first | assumption | (with_unfolding_all exact Nat.le_of_ble_eq_true rfl) | (apply Nat.le_trans; assumption; with_unfolding_all exact Nat.le_of_ble_eq_true rfl) | (apply Nat.lt_of_le_of_lt; assumption; with_unfolding_all exact Nat.le_of_ble_eq_true rfl) | ((try simp only [List.length_map, List.length_append, List.length_cons, List.length_nil, List.length_set, List.length_replicate, List.length_take, List.length_drop, List.length_reverse]); first | assumption | lia) | decide)) | (refine div_nn ?_ ?_ ?_; (first | assumption | (with_unfolding_all exact Nat.le_of_ble_eq_true rfl) | (apply Nat.le_trans; assumption; with_unfolding_all exact Nat.le_of_ble_eq_true rfl) | (apply Nat.lt_of_le_of_lt; assumption; with_unfolding_all exact Nat.le_of_ble_eq_true rfl) | ((try simp only [List.length_map, List.length_append, List.length_cons, List.length_nil, List.length_set, List.length_replicate, List.length_take, List.length_drop, List.length_reverse]); first | assumption | lia) | decide); (first | assumption | (with_unfolding_all exact Nat.le_of_ble_eq_true rfl) | (apply Nat.le_trans; assumption; with_unfolding_all exact Nat.le_of_ble_eq_true rfl) | (apply Nat.lt_of_le_of_lt; assumption; with_unfolding_all exact Nat.le_of_ble_eq_true rfl) | ((try simp only [List.length_map, List.length_append, List.length_cons, List.length_nil, List.length_set, List.length_replicate, List.length_take, List.length_drop, List.length_reverse]); first | assumption | lia) | decide)) | refine e_list ?_ | refine ⟨[], rfl, by decide, ?_⟩)
  rw [Nat.div_eq_of_lt hn, Nat.mod_eq_of_lt hn]
  skip
  refine .inr ?_
  repeat (with_reducible first | (refine x_name ?_; refine ⟨_, by with_unfolding_all rfl, ?_⟩) | refine e_nat ?_ | refine l_cons ?_ | refine l_nil ?_ | refine e_bin ?_ | refine ⟨rfl, ?_⟩ | refine sto_l ?_ | refine e_call ?_ | refine ⟨_, _, _, by with_unfolding_all rfl, by (first | assumption | (with_unfolding_all exact Nat.le_of_ble_eq_true rfl) | (apply Nat.le_trans; assumption; with_unfolding_all exact Nat.le_of_ble_eq_true rfl) | (apply Nat.lt_of_le_of_lt; assumption; with_unfolding_all exact Nat.le_of_ble_eq_true rfl) | ((try simp only [List.length_map, List.length_append, List.length_cons, List.length_nil, List.length_set, List.length_replicate, List.length_take, List.length_drop, List.length_reverse]); first | assumption | lia) | decide), ?_⟩ | refine ⟨_, _, rfl, ?_⟩ | refine b_for ?_ | refine s_for ?_ | refine x_range2 ?_ | refine k_bi ?_ | refine x_len ?_ | (refine sub_nn ?_ ?_; (first | assumption | (with_unfolding_all exact Nat.le_of_ble_eq_true rfl) | (apply Nat.le_trans; assumption; with_unfolding_all exact Nat.le_of_ble_eq_true rfl) | (apply Nat.lt_of_le_of_lt; assumption; with_unfolding_all exact Nat.le_of_ble_eq_true rfl) | ((try simp only [List.length_map, List.length_append, List.length_cons, List.length_nil, List.length_set, List.length_replicate, List.length_take, List.length_drop, List.length_reverse]); first | assumption | lia) | decide)) | (refine shl1_nn ?_ ?_; (first | assumption | (with_unfolding_all exact Nat.le_of_ble_eq_true rfl) | (apply Nat.le_trans; assumption; with_unfolding_all exact Nat.le_of_ble_eq_true rfl) | (apply Nat.lt_of_le_of_lt; assumption; with_unfolding_all exact Nat.le_of_ble_eq_true rfl) | ((try simp only [List.length_map, List.length_append, List.length_cons, List.length_nil, List.length_set, List.length_replicate, List.length_take, List.length_drop, List.length_reverse]); first | assumption | lia) | decide)) | refine b_len (by assumption) ?_ | refine b_range (by assumption) ?_ | refine ⟨by (first | assumption | (with_unfolding_all exact Nat.le_of_ble_eq_true rfl) | (apply Nat.le_trans; assumption; with_unfolding_all exact Nat.le_of_ble_eq_true rfl) | (apply Nat.lt_of_le_of_lt; assumption; with_unfolding_all exact Nat.le_of_ble_eq_true rfl) | ((try simp only [List.length_map, List.length_append, List.length_cons, List.length_nil, List.length_set, List.length_replicate, List.length_take, List.length_drop, List.length_reverse]); first | assumption | lia) | decide), ?_⟩)
  let I1 : Nat → St → Prop := fun j σ => ∃ ds, σ = ⟨[(Nm "a", .pv (row xs)), (Nm "n", pn n), (Nm "w", pn k), (Nm "few", pn n), (Nm "spots", pn 0), (Nm "mask", pn (2 ^ k - 1)), (Nm "found", .own 0)], [some (ds.map pnat)]⟩ ∧ Dig (2 ^ k) ds ∧ ds.length = j ∧ val (2 ^ k) ds + (2 ^ k) ^ j * (val (2 ^ k) (xs.drop j) / 2 ^ n) = m / 2 ^ n
  refine for_upto I1
    ⟨[], rfl, .nil, rfl, by rw [List.drop_zero, hxs, val_limbs hB]; simp [val]⟩ ?_ ?_ (Nat.zero_le _)
  · rintro j _ hj _ ⟨ds, rfl, hd, hdl, hv⟩ bs' _ _
    obtain ⟨x, hx⟩ : ∃ x, xs[j]? = some x := ⟨_, List.getElem?_eq_getElem hj⟩
    have hxB := hdx.get hx
    have hlow : x / 2 ^ n < 2 ^ (k - n) := (Nat.div_lt_iff_lt_mul hN0).mpr (by rw [← Nat.pow_add, show k - n + n = k by lia]; exact hxB)
    rw [val_drop _ hx] at hv
    by_cases h1 : j + 1 < xs.length
    · obtain ⟨y, hy⟩ : ∃ y, xs[j + 1]? = some y := ⟨_, List.getElem?_eq_getElem h1⟩
      have hyB := hdx.get hy
      rw [val_drop _ hy, shr_digit hn hxB, ← val_drop _ hy] at hv
      repeat (with_reducible first | (refine x_name ?_; refine ⟨_, by with_unfolding_all rfl, ?_⟩) | refine e_nat ?_ | refine l_cons ?_ | refine l_nil ?_ | refine e_bin ?_ | refine ⟨rfl, ?_⟩ | refine sto_l ?_ | refine ⟨_, rfl, ?_⟩ | refine t_cmp ?_ | refine e_sub ?_ | refine e_call ?_ | refine x_ix ?_ | refine add_nn ?_ | refine and_mask ?_ | refine ⟨_, _, _, _, by with_unfolding_all rfl, by (first | assumption | with_unfolding_all assumption), by (first | assumption | (with_unfolding_all exact Nat.le_of_ble_eq_true rfl) | (apply Nat.le_trans; assumption; with_unfolding_all exact Nat.le_of_ble_eq_true rfl) | (apply Nat.lt_of_le_of_lt; assumption; with_unfolding_all exact Nat.le_of_ble_eq_true rfl) | ((try simp only [List.length_map, List.length_append, List.length_cons, List.length_nil, List.length_set, List.length_replicate, List.length_take, List.length_drop, List.length_reverse]); first | assumption | lia) | decide), ?_⟩ | refine ⟨_, _, _, by with_unfolding_all rfl, by (first | assumption | (with_unfolding_all exact Nat.le_of_ble_eq_true rfl) | (apply Nat.le_trans; assumption; with_unfolding_all exact Nat.le_of_ble_eq_true rfl) | (apply Nat.lt_of_le_of_lt; assumption; with_unfolding_all exact Nat.le_of_ble_eq_true rfl) | ((try simp only [List.length_map, List.length_append, List.length_cons, List.length_nil, List.length_set, List.length_replicate, List.length_take, List.length_drop, List.length_reverse]); first | assumption | lia) | decide), ?_⟩ | refine x_assign ?_ | refine s_expr ?_ | refine b_nil ?_ | refine b_next ?_ | (refine ite_t ?_ ?_; (first | assumption | (with_unfolding_all exact Nat.le_of_ble_eq_true rfl) | (apply Nat.le_trans; assumption; with_unfolding_all exact Nat.le_of_ble_eq_true rfl) | (apply Nat.lt_of_le_of_lt; assumption; with_unfolding_all exact Nat.le_of_ble_eq_true rfl) | ((try simp only [List.length_map, List.length_append, List.length_cons, List.length_nil, List.length_set, List.length_replicate, List.length_take, List.length_drop, List.length_reverse]); first | assumption | lia) | decide)) | refine k_bi ?_ | refine x_len ?_ | (refine sub_nn ?_ ?_; (first | assumption | (with_unfolding_all exact Nat.le_of_ble_eq_true rfl) | (apply Nat.le_trans; assumption; with_unfolding_all exact Nat.le_of_ble_eq_true rfl) | (apply Nat.lt_of_le_of_lt; assumption; with_unfolding_all exact Nat.le_of_ble_eq_true rfl) | ((try simp only [List.length_map, List.length_append, List.length_cons, List.length_nil, List.length_set, List.length_replicate, List.length_take, List.length_drop, List.length_reverse]); first | assumption | lia) | decide)) | (refine shl_nn ?_ ?_ ?_; (first | assumption | (with_unfolding_all exact Nat.le_of_ble_eq_true rfl) | (apply Nat.le_trans; assumption; with_unfolding_all exact Nat.le_of_ble_eq_true rfl) | (apply Nat.lt_of_le_of_lt; assumption; with_unfolding_all exact Nat.le_of_ble_eq_true rfl) | ((try simp only [List.length_map, List.length_append, List.length_cons, List.length_nil, List.length_set, List.length_replicate, List.length_take, List.length_drop, List.length_reverse]); first | assumption | lia) | decide); (first | assumption | (with_unfolding_all exact Nat.le_of_ble_eq_true rfl) | (apply Nat.le_trans; assumption; with_unfolding_all exact Nat.le_of_ble_eq_true rfl) | (apply Nat.lt_of_le_of_lt; assumption; with_unfolding_all exact Nat.le_of_ble_eq_true rfl) | ((try simp only [List.length_map, List.length_append, List.length_cons, List.length_nil, List.length_set, List.length_replicate, List.length_take, List.length_drop, List.length_reverse]); first | assumption | lia) | decide)) | refine shr_nn ?_ | (refine or_nn ?_ ?_; (first | assumption | (with_unfolding_all exact Nat.le_of_ble_eq_true rfl) | (apply Nat.le_trans; assumption; with_unfolding_all exact Nat.le_of_ble_eq_true rfl) | (apply Nat.lt_of_le_of_lt; assumption; with_unfolding_all exact Nat.le_of_ble_eq_true rfl) | ((try simp only [List.length_map, List.length_append, List.length_cons, List.length_nil, List.length_set, List.length_replicate, List.length_take, List.length_drop, List.length_reverse]); first | assumption | lia) | decide)) | refine lt_nn ?_ | refine x_append ?_ | refine own_q ?_ | (refine push_p ?_; refine ⟨_, by with_unfolding_all rfl, by (first | assumption | (with_unfolding_all exact Nat.le_of_ble_eq_true rfl) | (apply Nat.le_trans; assumption; with_unfolding_all exact Nat.le_of_ble_eq_true rfl) | (apply Nat.lt_of_le_of_lt; assumption; with_unfolding_all exact Nat.le_of_ble_eq_true rfl) | ((try simp only [List.length_map, List.length_append, List.length_cons, List.length_nil, List.length_set, List.length_replicate, List.length_take, List.length_drop, List.length_reverse]); first | assumption | lia) | decide), ?_⟩) | refine ⟨⟨_, by with_unfolding_all rfl⟩, ?_⟩ | refine ifExp ?_ | refine xa_name ?_ | refine b_len (by assumption) ?_)
      refine loop_next (next_of ⟨_, rfl, hd.snoc (Nat.mod_lt _ (by lia)), by simp [hdl], ?_⟩)
      rw [val_snoc, hdl, Nat.pow_succ, Nat.mul_assoc, Nat.add_assoc, ← Nat.mul_add]
      exact hv
    · have hz : val (2 ^ k) (xs.drop (j + 1)) = 0 := by rw [List.drop_of_length_le (by lia)]; rfl
      rw [hz, show (0 : Nat) = 0 + 2 ^ k * 0 by simp, shr_digit hn hxB] at hv
      have hz2 : val (2 ^ k) (xs.drop (j + 1)) / 2 ^ n = 0 := by rw [hz]; exact Nat.zero_div _
      simp only [Nat.mul_zero, Nat.add_zero, Nat.zero_mul, Nat.zero_div] at hv
      repeat (with_reducible first | (refine x_name ?_; refine ⟨_, by with_unfolding_all rfl, ?_⟩) | refine e_nat ?_ | refine l_cons ?_ | refine l_nil ?_ | refine e_bin ?_ | refine ⟨rfl, ?_⟩ | refine sto_l ?_ | refine ⟨_, rfl, ?_⟩ | refine t_cmp ?_ | refine e_sub ?_ | refine e_call ?_ | refine x_ix ?_ | refine add_nn ?_ | refine and_mask ?_ | refine ⟨_, _, _, _, by with_unfolding_all rfl, by (first | assumption | with_unfolding_all assumption), by (first | assumption | (with_unfolding_all exact Nat.le_of_ble_eq_true rfl) | (apply Nat.le_trans; assumption; with_unfolding_all exact Nat.le_of_ble_eq_true rfl) | (apply Nat.lt_of_le_of_lt; assumption; with_unfolding_all exact Nat.le_of_ble_eq_true rfl) | ((try simp only [List.length_map, List.length_append, List.length_cons, List.length_nil, List.length_set, List.length_replicate, List.length_take, List.length_drop, List.length_reverse]); first | assumption | lia) | decide), ?_⟩ | refine ⟨_, _, _, by with_unfolding_all rfl, by (first | assumption | (with_unfolding_all exact Nat.le_of_ble_eq_true rfl) | (apply Nat.le_trans; assumption; with_unfolding_all exact Nat.le_of_ble_eq_true rfl) | (apply Nat.lt_of_le_of_lt; assumption; with_unfolding_all exact Nat.le_of_ble_eq_true rfl) | ((try simp only [List.length_map, List.length_append, List.length_cons, List.length_nil, List.length_set, List.length_replicate, List.length_take, List.length_drop, List.length_reverse]); first | assumption | lia) | decide), ?_⟩ | refine x_assign ?_ | refine s_expr ?_ | refine b_nil ?_ | refine b_next ?_ | (refine ite_f ?_ ?_; (first | assumption | (with_unfolding_all exact Nat.le_of_ble_eq_true rfl) | (apply Nat.le_trans; assumption; with_unfolding_all exact Nat.le_of_ble_eq_true rfl) | (apply Nat.lt_of_le_of_lt; assumption; with_unfolding_all exact Nat.le_of_ble_eq_true rfl) | ((try simp only [List.length_map, List.length_append, List.length_cons, List.length_nil, List.length_set, List.length_replicate, List.length_take, List.length_drop, List.length_reverse]); first | assumption | lia) | decide)) | refine k_bi ?_ | refine x_len ?_ | (refine sub_nn ?_ ?_; (first | assumption | (with_unfolding_all exact Nat.le_of_ble_eq_true rfl) | (apply Nat.le_trans; assumption; with_unfolding_all exact Nat.le_of_ble_eq_true rfl) | (apply Nat.lt_of_le_of_lt; assumption; with_unfolding_all exact Nat.le_of_ble_eq_true rfl) | ((try simp only [List.length_map, List.length_append, List.length_cons, List.length_nil, List.length_set, List.length_replicate, List.length_take, List.length_drop, List.length_reverse]); first | assumption | lia) | decide)) | (refine shl_nn ?_ ?_ ?_; (first | assumption | (with_unfolding_all exact Nat.le_of_ble_eq_true rfl) | (apply Nat.le_trans; assumption; with_unfolding_all exact Nat.le_of_ble_eq_true rfl) | (apply Nat.lt_of_le_of_lt; assumption; with_unfolding_all exact Nat.le_of_ble_eq_true rfl) | ((try simp only [List.length_map, List.length_append, List.length_cons, List.length_nil, List.length_set, List.length_replicate, List.length_take, List.length_drop, List.length_reverse]); first | assumption | lia) | decide); (first | assumption | (with_unfolding_all exact Nat.le_of_ble_eq_true rfl) | (apply Nat.le_trans; assumption; with_unfolding_all exact Nat.le_of_ble_eq_true rfl) | (apply Nat.lt_of_le_of_lt; assumption; with_unfolding_all exact Nat.le_of_ble_eq_true rfl) | ((try simp only [List.length_map, List.length_append, List.length_cons, List.length_nil, List.length_set, List.length_replicate, List.length_take, List.length_drop, List.length_reverse]); first | assumption | lia) | decide)) | refine shr_nn ?_ | (refine or_nn ?_ ?_; (first | assumption | (with_unfolding_all exact Nat.le_of_ble_eq_true rfl) | (apply Nat.le_trans; assumption; with_unfolding_all exact Nat.le_of_ble_eq_true rfl) | (apply Nat.lt_of_le_of_lt; assumption; with_unfolding_all exact Nat.le_of_ble_eq_true rfl) | ((try simp only [List.length_map, List.length_append, List.length_cons, List.length_nil, List.length_set, List.length_replicate, List.length_take, List.length_drop, List.length_reverse]); first | assumption | lia) | decide)) | refine lt_nn ?_ | refine x_append ?_ | refine own_q ?_ | (refine push_p ?_; refine ⟨_, by with_unfolding_all rfl, by (first | assumption | (with_unfolding_all exact Nat.le_of_ble_eq_true rfl) | (apply Nat.le_trans; assumption; with_unfolding_all exact Nat.le_of_ble_eq_true rfl) | (apply Nat.lt_of_le_of_lt; assumption; with_unfolding_all exact Nat.le_of_ble_eq_true rfl) | ((try simp only [List.length_map, List.length_append, List.length_cons, List.length_nil, List.length_set, List.length_replicate, List.length_take, List.length_drop, List.length_reverse]); first | assumption | lia) | decide), ?_⟩) | refine ⟨⟨_, by with_unfolding_all rfl⟩, ?_⟩ | refine ifExp ?_ | refine xa_name ?_ | refine b_len (by assumption) ?_)
      refine loop_next (next_of ⟨_, rfl, hd.snoc (Nat.mod_lt _ (by lia)), by simp [hdl], ?_⟩)
      rw [hz2, val_snoc, hdl, Nat.mul_zero, Nat.add_zero, Nat.zero_mul, Nat.add_zero]
      exact hv
  · rintro _ ⟨ds, rfl, hd, hdl, hv⟩
    rw [List.drop_length] at hv
    simp only [val, Nat.zero_div, Nat.mul_zero, Nat.add_zero] at hv
    refine then_next (W.freeze (k := 0) rfl (by rw [hl]; exact Nat.zero_le _) (W.state [(Nm "found", .pv (row ds))] [none] ?_))
    repeat (with_reducible first | (refine x_name ?_; refine ⟨_, by with_unfolding_all rfl, ?_⟩) | refine l_cons ?_ | refine l_nil ?_ | refine e_call ?_ | refine s_return ?_ | refine b_ret ?_ | refine k_ref (Prg.keep (by assumption) (by decide)) ?_ | (refine e_glob (g_normal (by assumption)) ?_))
    refine call_v (normal_ok P ds (by lia)) ?_
    repeat (with_reducible first | refine then_ret ?_)
    refine fin_val ?_
    rw [strip_limbs hB hd, hv]
theorem bits_ok (P : Prg K ad) {k x : Nat} : FCall prog w K 1 (ad 10) [] [row [x], .int k] (fun r _ => r = .val (.int (Builtin.Int.intBits x : Nat))) := by
  refine enter (P.fn 10 (by decide)) [Nm "a", Nm "w"] (by (intro nm q doc pm an cdv ct vals h; obtain ⟨a, b, e⟩ := len2 h; subst e; with_unfolding_all rfl)) (fun _ => rfl) (by decide) rfl [(Nm "a", .pv (row [x])), (Nm "w", pn k)] [] rfl rfl ?_
  intro bs L q cd hl hc
  refine let C : Cx := _; let Z : RF → St → Prop := _; (show WB C _ _ Z from ?_)
  have hx : [x].getLast? = some x := rfl
  have hlen : [x].length = 1 := rfl
  refine b_then ?_
  repeat (with_reducible first | (refine x_name ?_; refine ⟨_, by with_unfolding_all rfl, ?_⟩) | refine e_nat ?_ | refine l_cons ?_ | refine l_nil ?_ | refine e_bin ?_ | refine ⟨_, rfl, ?_⟩ | refine t_cmp ?_ | refine e_sub ?_ | refine e_call ?_ | refine add_nn ?_ | refine ⟨_, _, _, _, by with_unfolding_all rfl, by (first | assumption | with_unfolding_all assumption), by (first | assumption | (with_unfolding_all exact Nat.le_of_ble_eq_true rfl) | (apply Nat.le_trans; assumption; with_unfolding_all exact Nat.le_of_ble_eq_true rfl) | (apply Nat.lt_of_le_of_lt; assumption; with_unfolding_all exact Nat.le_of_ble_eq_true rfl) | ((try simp only [List.length_map, List.length_append, List.length_cons, List.length_nil, List.length_set, List.length_replicate, List.length_take, List.length_drop, List.length_reverse]); first | assumption | lia) | decide), ?_⟩ | refine ⟨_, _, _, by with_unfolding_all rfl, by (first | assumption | (with_unfolding_all exact Nat.le_of_ble_eq_true rfl) | (apply Nat.le_trans; assumption; with_unfolding_all exact Nat.le_of_ble_eq_true rfl) | (apply Nat.lt_of_le_of_lt; assumption; with_unfolding_all exact Nat.le_of_ble_eq_true rfl) | ((try simp only [List.length_map, List.length_append, List.length_cons, List.length_nil, List.length_set, List.length_replicate, List.length_take, List.length_drop, List.length_reverse]); first | assumption | lia) | decide), ?_⟩ | refine s_return ?_ | refine then_ret ?_ | (refine ite_t ?_ ?_; (first | assumption | (with_unfolding_all exact Nat.le_of_ble_eq_true rfl) | (apply Nat.le_trans; assumption; with_unfolding_all exact Nat.le_of_ble_eq_true rfl) | (apply Nat.lt_of_le_of_lt; assumption; with_unfolding_all exact Nat.le_of_ble_eq_true rfl) | ((try simp only [List.length_map, List.length_append, List.length_cons, List.length_nil, List.length_set, List.length_replicate, List.length_take, List.length_drop, List.length_reverse]); first | assumption | lia) | decide)) | refine k_bi ?_ | refine x_len ?_ | (refine sub_nn ?_ ?_; (first | assumption | (with_unfolding_all exact Nat.le_of_ble_eq_true rfl) | (apply Nat.le_trans; assumption; with_unfolding_all exact Nat.le_of_ble_eq_true rfl) | (apply Nat.lt_of_le_of_lt; assumption; with_unfolding_all exact Nat.le_of_ble_eq_true rfl) | ((try simp only [List.length_map, List.length_append, List.length_cons, List.length_nil, List.length_set, List.length_replicate, List.length_take, List.length_drop, List.length_reverse]); first | assumption | lia) | decide)) | (refine mul_nn ?_ ?_; (first | assumption | (with_unfolding_all exact Nat.le_of_ble_eq_true rfl) | (apply Nat.le_trans; assumption; with_unfolding_all exact Nat.le_of_ble_eq_true rfl) | (apply Nat.lt_of_le_of_lt; assumption; with_unfolding_all exact Nat.le_of_ble_eq_true rfl) | ((try simp only [List.length_map, List.length_append, List.length_cons, List.length_nil, List.length_set, List.length_replicate, List.length_take, List.length_drop, List.length_reverse]); first | assumption | lia) | decide)) | refine gt_nn ?_ | refine x_ixl ?_ | refine e_neg1 ?_ | refine e_bitlen ?_ | refine ifExp ?_ | refine b_len (by assumption) ?_)
  exact fin_val (by simp)
end
end CR
namespace CR
open PySem PySem.W PyProof.Rows
theorem val_set {B : Nat} : ∀ {fs : List Nat} {p x : Nat} (v : Nat), fs[p]? = some x → val B (fs.set p v) + B ^ p * x = val B fs + B ^ p * v
  | [], _, _, _, h => by simp at h
  | y :: fs, 0, x, v, h => by
    simp only [List.getElem?_cons_zero, Option.some.injEq] at h
    subst h
    simp only [List.set_cons_zero, val, Nat.pow_zero, Nat.one_mul]
    lia
  | y :: fs, p + 1, x, v, h => by
    simp only [List.getElem?_cons_succ] at h
    have := val_set (B := B) v h
    simp only [List.set_cons_succ, val, Nat.pow_succ]
    have e1 : B ^ p * B * x = B * (B ^ p * x) := by rw [Nat.mul_comm (B ^ p) B, Nat.mul_assoc]
    have e2 : B ^ p * B * v = B * (B ^ p * v) := by rw [Nat.mul_comm (B ^ p) B, Nat.mul_assoc]
    rw [e1, e2, Nat.add_assoc, Nat.add_assoc, ← Nat.mul_add, ← Nat.mul_add, this]
theorem set_step {B c t x p A : Nat} {fs : List Nat} (hx : fs[p]? = some x) (h : val B fs + B ^ p * c = A) : val B (fs.set p ((c + (x + t)) % B)) + B ^ (p + 1) * ((c + (x + t)) / B) = A + B ^ p * t := by
  have h1 := val_set (B := B) ((c + (x + t)) % B) hx
  have h2 := Nat.mod_add_div (c + (x + t)) B
  have e : B ^ p * ((c + (x + t)) % B) + B ^ (p + 1) * ((c + (x + t)) / B) = B ^ p * c + B ^ p * x + B ^ p * t := by
    rw [Nat.pow_succ, Nat.mul_assoc, ← Nat.mul_add, h2, Nat.mul_add, Nat.mul_add, Nat.add_assoc]
  lia
theorem get_drop {xs : List Nat} {p : Nat} {n : Nat} (h : xs.drop p = List.replicate (n + 1) 0) : xs[p]? = some 0 := by
  have : (xs.drop p)[0]? = some 0 := by rw [h]; rfl
  rw [List.getElem?_drop] at this
  simpa using this
theorem drop_succ {xs : List Nat} {p : Nat} {n : Nat} (h : xs.drop p = List.replicate (n + 1) 0) : xs.drop (p + 1) = List.replicate n 0 := by
  have : (xs.drop p).drop 1 = List.replicate n 0 := by rw [h]; rfl
  rw [List.drop_drop] at this
  exact this
theorem drop_set_gt {xs : List Nat} {p q v : Nat} (h : p < q) : (xs.set p v).drop q = xs.drop q := List.drop_set_of_lt h
theorem carry_lt {B c x l y : Nat} (hB : 2 ≤ B) (hc : c < B) (hx : x < B) (hl : l < B) (hy : y < B) : (c + (x + l * y)) / B < B := by
  refine (Nat.div_lt_iff_lt_mul (by lia)).mpr ?_
  obtain ⟨b, rfl⟩ : ∃ b, B = b + 1 := ⟨B - 1, by lia⟩
  have : l * y ≤ b * b := Nat.mul_le_mul (by lia) (by lia)
  have e : (b + 1) * (b + 1) = b * b + b + b + 1 := by rw [Nat.add_mul, Nat.mul_add]; lia
  lia
section
variable {prog : Program} {w : World} {K : Frag} {ad : Nat → Addr}
theorem mul_school_ok (P : Prg K ad) {k m n : Nat} (hk : 1 ≤ k ∧ k ≤ 20) (hm : (limbs (2 ^ k) m).length ≤ 500) (hn : (limbs (2 ^ k) n).length ≤ 500) : FCall prog w K 2 (ad 22) [] [row (limbs (2 ^ k) m), row (limbs (2 ^ k) n), .int k] (fun r _ => r = .val (row (limbs (2 ^ k) (m * n)))) := by
  have hB := two_le_pow hk.1
  have hB2 : 2 ^ k ≤ 2 ^ 20 := Nat.pow_le_pow_right (by decide) hk.2
  obtain ⟨xs, hxs⟩ : ∃ xs, xs = limbs (2 ^ k) m := ⟨_, rfl⟩
  obtain ⟨ys, hys⟩ : ∃ ys, ys = limbs (2 ^ k) n := ⟨_, rfl⟩
  rw [← hxs, ← hys]
  rw [← hxs] at hm
  rw [← hys] at hn
  have hdx : Dig (2 ^ k) xs := hxs ▸ limbs_dig hB m
  have hdy : Dig (2 ^ k) ys := hys ▸ limbs_dig hB n
  refine enter (P.fn 22 (by decide)) [Nm "a", Nm "b", Nm "w"] (by (intro nm q doc pm an cdv ct vals h; obtain ⟨a, b, c, e⟩ := len3 h; subst e; with_unfolding_all rfl)) (fun _ => rfl) (by decide) rfl [(Nm "a", .pv (row xs)), (Nm "b", .pv (row ys)), (Nm "w", pn k)] [] rfl rfl ?_
  intro bs L q cd hl hc
  refine let C : Cx := _; let Z : RF → St → Prop := _; (show WB C _ _ Z from ?_)
  refine b_next ?_
  repeat (with_reducible first | refine e_nat ?_ | refine l_cons ?_ | refine l_nil ?_ | refine e_bin ?_ | refine x_sw2 ?_ | refine e_list ?_ | refine ⟨[_], by with_unfolding_all rfl, by (first | assumption | (with_unfolding_all exact Nat.le_of_ble_eq_true rfl) | (apply Nat.le_trans; assumption; with_unfolding_all exact Nat.le_of_ble_eq_true rfl) | (apply Nat.lt_of_le_of_lt; assumption; with_unfolding_all exact Nat.le_of_ble_eq_true rfl) | ((try simp only [List.length_map, List.length_append, List.length_cons, List.length_nil, List.length_set, List.length_replicate, List.length_take, List.length_drop, List.length_reverse]); first | assumption | lia) | decide), ?_⟩)
  refine .inl ?_
  repeat (with_reducible first | (refine x_name ?_; refine ⟨_, by with_unfolding_all rfl, ?_⟩) | refine l_cons ?_ | refine l_nil ?_ | refine e_bin ?_ | refine e_call ?_ | refine add_nn ?_ | refine ⟨_, _, _, by with_unfolding_all rfl, by (first | assumption | (with_unfolding_all exact Nat.le_of_ble_eq_true rfl) | (apply Nat.le_trans; assumption; with_unfolding_all exact Nat.le_of_ble_eq_true rfl) | (apply Nat.lt_of_le_of_lt; assumption; with_unfolding_all exact Nat.le_of_ble_eq_true rfl) | ((try simp only [List.length_map, List.length_append, List.length_cons, List.length_nil, List.length_set, List.length_replicate, List.length_take, List.length_drop, List.length_reverse]); first | assumption | lia) | decide), ?_⟩ | refine k_bi ?_ | refine x_len ?_ | (refine mul_zero ?_ ?_; (first | assumption | (with_unfolding_all exact Nat.le_of_ble_eq_true rfl) | (apply Nat.le_trans; assumption; with_unfolding_all exact Nat.le_of_ble_eq_true rfl) | (apply Nat.lt_of_le_of_lt; assumption; with_unfolding_all exact Nat.le_of_ble_eq_true rfl) | ((try simp only [List.length_map, List.length_append, List.length_cons, List.length_nil, List.length_set, List.length_replicate, List.length_take, List.length_drop, List.length_reverse]); first | assumption | lia) | decide)) | refine b_len (by assumption) ?_)
  refine .inr ?_
  repeat (with_reducible first | (refine x_name ?_; refine ⟨_, by with_unfolding_all rfl, ?_⟩) | refine e_nat ?_ | refine l_cons ?_ | refine l_nil ?_ | refine e_bin ?_ | refine ⟨rfl, ?_⟩ | refine sto_l ?_ | refine ⟨_, rfl, ?_⟩ | refine ⟨_, _, rfl, ?_⟩ | refine b_for ?_ | refine s_for ?_ | refine it_enum ?_ | (refine sub_nn ?_ ?_; (first | assumption | (with_unfolding_all exact Nat.le_of_ble_eq_true rfl) | (apply Nat.le_trans; assumption; with_unfolding_all exact Nat.le_of_ble_eq_true rfl) | (apply Nat.lt_of_le_of_lt; assumption; with_unfolding_all exact Nat.le_of_ble_eq_true rfl) | ((try simp only [List.length_map, List.length_append, List.length_cons, List.length_nil, List.length_set, List.length_replicate, List.length_take, List.length_drop, List.length_reverse]); first | assumption | lia) | decide)) | (refine shl1_nn ?_ ?_; (first | assumption | (with_unfolding_all exact Nat.le_of_ble_eq_true rfl) | (apply Nat.le_trans; assumption; with_unfolding_all exact Nat.le_of_ble_eq_true rfl) | (apply Nat.lt_of_le_of_lt; assumption; with_unfolding_all exact Nat.le_of_ble_eq_true rfl) | ((try simp only [List.length_map, List.length_append, List.length_cons, List.length_nil, List.length_set, List.length_replicate, List.length_take, List.length_drop, List.length_reverse]); first | assumption | lia) | decide)) | refine b_enumerate (by assumption) ?_)
  let I1 : Nat → St → Prop := fun i σ => ∃ fs, σ = ⟨[(Nm "a", .pv (row xs)), (Nm "b", .pv (row ys)), (Nm "w", pn k), (Nm "mask", pn (2 ^ k - 1)), (Nm "found", .own 0)], [some (fs.map pnat)]⟩ ∧ Dig (2 ^ k) fs ∧ fs.length = xs.length + ys.length ∧ fs.drop (i + ys.length) = List.replicate (xs.length - i) 0 ∧ val (2 ^ k) fs = val (2 ^ k) (xs.take i) * val (2 ^ k) ys
  refine for_enum I1
    ⟨_, rfl, Dig.zeros (by lia) _, List.length_replicate, by rw [List.drop_replicate]; congr 1; lia, by rw [val_zeros]; simp [val]⟩ ?_ ?_
  · rintro i x hx _ ⟨fs, rfl, hd, hfl, hz, hv⟩ bs' _ _
    have hxB := hdx.get hx
    have hil : i < xs.length := (List.getElem?_eq_some_iff.mp hx).1
    repeat (with_reducible first | (refine x_name ?_; refine ⟨_, by with_unfolding_all rfl, ?_⟩) | refine e_nat ?_ | refine ⟨rfl, ?_⟩ | refine sto_l ?_ | refine ⟨_, rfl, ?_⟩ | refine x_assign ?_ | refine b_for ?_ | refine b_next ?_ | refine s_for ?_ | refine it_enum ?_ | refine xa_name ?_ | refine as_cons ?_ | refine as_nil ?_ | refine b_enumerate (by assumption) ?_)
    let I2 : Nat → St → Prop := fun j σ => ∃ gs c, σ = ⟨[(Nm "a", .pv (row xs)), (Nm "b", .pv (row ys)), (Nm "w", pn k), (Nm "mask", pn (2 ^ k - 1)), (Nm "found", .own 0), (Nm "at", pn i), (Nm "limb", pn x), (Nm "carry", pn c)], [some (gs.map pnat)]⟩ ∧ Dig (2 ^ k) gs ∧ gs.length = xs.length + ys.length ∧ gs.drop (i + j) = fs.drop (i + j) ∧ c < 2 ^ k ∧ val (2 ^ k) gs + (2 ^ k) ^ (i + j) * c = val (2 ^ k) fs + (2 ^ k) ^ i * (x * val (2 ^ k) (ys.take j))
    refine for_enum I2
      ⟨fs, 0, rfl, hd, hfl, rfl, by lia, by simp [val]⟩ ?_ ?_
    · rintro j y hy _ ⟨gs, c, rfl, hgd, hgl, hgz, hc1, hgv⟩ bs'' _ _
      have hyB := hdy.get hy
      have hjl : j < ys.length := (List.getElem?_eq_some_iff.mp hy).1
      obtain ⟨z, hz2⟩ : ∃ z, gs[i + j]? = some z := ⟨_, List.getElem?_eq_getElem (by lia)⟩
      have hzB := hgd.get hz2
      have hs : x < 2 ^ 60 ∨ y < 2 ^ 60 := .inl (by lia)
      repeat (with_reducible first | (refine x_name ?_; refine ⟨_, by with_unfolding_all rfl, ?_⟩) | refine e_bin ?_ | refine ⟨rfl, ?_⟩ | refine sto_l ?_ | refine ⟨_, rfl, ?_⟩ | refine e_sub ?_ | refine x_ix ?_ | refine add_nn ?_ | refine and_mask ?_ | refine ⟨_, _, _, _, by with_unfolding_all rfl, by (first | assumption | with_unfolding_all assumption), by (first | assumption | (with_unfolding_all exact Nat.le_of_ble_eq_true rfl) | (apply Nat.le_trans; assumption; with_unfolding_all exact Nat.le_of_ble_eq_true rfl) | (apply Nat.lt_of_le_of_lt; assumption; with_unfolding_all exact Nat.le_of_ble_eq_true rfl) | ((try simp only [List.length_map, List.length_append, List.length_cons, List.length_nil, List.length_set, List.length_replicate, List.length_take, List.length_drop, List.length_reverse]); first | assumption | lia) | decide), ?_⟩ | refine x_setitem ?_ | refine x_aug ?_ | refine b_nil ?_ | refine b_next ?_ | (refine mul_nn ?_ ?_; (first | assumption | (with_unfolding_all exact Nat.le_of_ble_eq_true rfl) | (apply Nat.le_trans; assumption; with_unfolding_all exact Nat.le_of_ble_eq_true rfl) | (apply Nat.lt_of_le_of_lt; assumption; with_unfolding_all exact Nat.le_of_ble_eq_true rfl) | ((try simp only [List.length_map, List.length_append, List.length_cons, List.length_nil, List.length_set, List.length_replicate, List.length_take, List.length_drop, List.length_reverse]); first | assumption | lia) | decide)) | refine iadd_nn ?_ | refine ishr_nn ?_ | refine own_q ?_ | (refine set_p ?_; refine ⟨_, by with_unfolding_all rfl, by (first | assumption | (with_unfolding_all exact Nat.le_of_ble_eq_true rfl) | (apply Nat.le_trans; assumption; with_unfolding_all exact Nat.le_of_ble_eq_true rfl) | (apply Nat.lt_of_le_of_lt; assumption; with_unfolding_all exact Nat.le_of_ble_eq_true rfl) | ((try simp only [List.length_map, List.length_append, List.length_cons, List.length_nil, List.length_set, List.length_replicate, List.length_take, List.length_drop, List.length_reverse]); first | assumption | lia) | decide), by (first | assumption | (with_unfolding_all exact Nat.le_of_ble_eq_true rfl) | (apply Nat.le_trans; assumption; with_unfolding_all exact Nat.le_of_ble_eq_true rfl) | (apply Nat.lt_of_le_of_lt; assumption; with_unfolding_all exact Nat.le_of_ble_eq_true rfl) | ((try simp only [List.length_map, List.length_append, List.length_cons, List.length_nil, List.length_set, List.length_replicate, List.length_take, List.length_drop, List.length_reverse]); first | assumption | lia) | decide), ?_⟩) | refine ⟨⟨_, by with_unfolding_all rfl⟩, ?_⟩ | refine xa_name ?_ | refine as_cons ?_ | refine as_nil ?_)
      refine loop_next (next_of ⟨_, _, rfl, hgd.set _ (Nat.mod_lt _ (by lia)), List.length_set.trans hgl, ?_, carry_lt hB hc1 hzB hxB hyB, ?_⟩)
      · rw [show i + (j + 1) = i + j + 1 from rfl, drop_set_gt (Nat.lt_succ_self _)]
        have := congrArg (List.drop 1) hgz
        rw [List.drop_drop, List.drop_drop] at this
        exact this
      · rw [show i + (j + 1) = i + j + 1 from rfl, set_step hz2 hgv, val_take _ hy, Nat.mul_add, Nat.mul_add, Nat.add_assoc]
        congr 2
        rw [Nat.pow_add, Nat.mul_assoc]
        congr 1
        rw [Nat.mul_left_comm]
    · rintro _ ⟨gs, c, rfl, hgd, hgl, hgz, hc1, hgv⟩
      rw [List.take_length] at hgv
      rw [hz] at hgz
      obtain ⟨r, hr⟩ : ∃ r, xs.length - i = r + 1 := ⟨xs.length - i - 1, by lia⟩
      rw [hr] at hgz
      have h0 := get_drop hgz
      repeat (with_reducible first | (refine x_name ?_; refine ⟨_, by with_unfolding_all rfl, ?_⟩) | refine l_cons ?_ | refine l_nil ?_ | refine e_bin ?_ | refine ⟨rfl, ?_⟩ | refine ⟨_, rfl, ?_⟩ | refine e_call ?_ | refine add_nn ?_ | refine ⟨_, _, _, by with_unfolding_all rfl, by (first | assumption | (with_unfolding_all exact Nat.le_of_ble_eq_true rfl) | (apply Nat.le_trans; assumption; with_unfolding_all exact Nat.le_of_ble_eq_true rfl) | (apply Nat.lt_of_le_of_lt; assumption; with_unfolding_all exact Nat.le_of_ble_eq_true rfl) | ((try simp only [List.length_map, List.length_append, List.length_cons, List.length_nil, List.length_set, List.length_replicate, List.length_take, List.length_drop, List.length_reverse]); first | assumption | lia) | decide), ?_⟩ | refine x_setitem ?_ | refine b_nil ?_ | refine b_next ?_ | refine then_next ?_ | refine k_bi ?_ | refine x_len ?_ | refine own_q ?_ | (refine set_p ?_; refine ⟨_, by with_unfolding_all rfl, by (first | assumption | (with_unfolding_all exact Nat.le_of_ble_eq_true rfl) | (apply Nat.le_trans; assumption; with_unfolding_all exact Nat.le_of_ble_eq_true rfl) | (apply Nat.lt_of_le_of_lt; assumption; with_unfolding_all exact Nat.le_of_ble_eq_true rfl) | ((try simp only [List.length_map, List.length_append, List.length_cons, List.length_nil, List.length_set, List.length_replicate, List.length_take, List.length_drop, List.length_reverse]); first | assumption | lia) | decide), by (first | assumption | (with_unfolding_all exact Nat.le_of_ble_eq_true rfl) | (apply Nat.le_trans; assumption; with_unfolding_all exact Nat.le_of_ble_eq_true rfl) | (apply Nat.lt_of_le_of_lt; assumption; with_unfolding_all exact Nat.le_of_ble_eq_true rfl) | ((try simp only [List.length_map, List.length_append, List.length_cons, List.length_nil, List.length_set, List.length_replicate, List.length_take, List.length_drop, List.length_reverse]); first | assumption | lia) | decide), ?_⟩) | refine ⟨⟨_, by with_unfolding_all rfl⟩, ?_⟩ | refine b_len (by assumption) ?_)
      refine loop_next (next_of ⟨_, rfl, hgd.set _ hc1, List.length_set.trans hgl, ?_, ?_⟩)
      · rw [show i + 1 + ys.length = i + ys.length + 1 by lia, drop_set_gt (Nat.lt_succ_self _), drop_succ hgz]
        congr 1; lia
      · have := val_set (B := 2 ^ k) c h0
        rw [Nat.mul_zero, Nat.add_zero] at this
        rw [this, hgv, hv, val_take _ hx, Nat.add_mul, Nat.mul_assoc]
  · rintro _ ⟨fs, rfl, hd, hfl, hz, hv⟩
    rw [List.take_length, hxs, hys, val_limbs hB, val_limbs hB] at hv
    refine then_next (W.freeze (k := 0) rfl (by rw [hl]; exact Nat.zero_le _) (W.state [(Nm "found", .pv (row fs))] [none] ?_))
    repeat (with_reducible first | (refine x_name ?_; refine ⟨_, by with_unfolding_all rfl, ?_⟩) | refine l_cons ?_ | refine l_nil ?_ | refine e_call ?_ | refine s_return ?_ | refine b_ret ?_ | refine k_ref (Prg.keep (by assumption) (by decide)) ?_ | (refine e_glob (g_normal (by assumption)) ?_))
    refine call_v (normal_ok P fs (by lia)) ?_
    repeat (with_reducible first | refine then_ret ?_)
    refine fin_val ?_
    rw [strip_limbs hB hd, hv]
end
end CR
namespace CR
open PySem PySem.W PyProof.Rows
section
variable {prog : Program} {w : World} {K : Frag} {ad : Nat → Addr}
theorem limbs_one {B d : Nat} (hB : 2 ≤ B) (h : 0 < d ∧ d < B) : limbs B d = [d] := by
  rw [limbs_pos hB (by lia), Nat.mod_eq_of_lt h.2, Nat.div_eq_of_lt h.2, limbs_zero]
theorem divrem_small_ok (P : Prg K ad) {k m d : Nat} (hk : 1 ≤ k ∧ k ≤ 20) (hm : (limbs (2 ^ k) m).length ≤ 1000) (hd : 0 < d ∧ d < 2 ^ k) : FCall prog w K 3 (ad 23) [] [row (limbs (2 ^ k) m), row [d], .int k] (fun r _ => r = .val (.tup [row (limbs (2 ^ k) (m / d)), row (limbs (2 ^ k) (m % d))])) := by
  have hB := two_le_pow hk.1
  refine enter (P.fn 23 (by decide)) [Nm "a", Nm "b", Nm "w"] (by (intro nm q doc pm an cdv ct vals h; obtain ⟨a, b, c, e⟩ := len3 h; subst e; with_unfolding_all rfl)) (fun _ => rfl) (by decide) rfl [(Nm "a", .pv (row (limbs (2 ^ k) m))), (Nm "b", .pv (row [d])), (Nm "w", pn k)] [] rfl rfl ?_
  intro bs L q cd hl hc
  have h0 : [d][0]? = some d := rfl
  refine b_next ?_
  repeat (with_reducible first | (refine x_name ?_; refine ⟨_, by with_unfolding_all rfl, ?_⟩) | refine e_nat ?_ | refine l_cons ?_ | refine l_nil ?_ | refine e_sub ?_ | refine e_call ?_ | refine x_ix ?_ | refine ⟨_, _, _, _, by with_unfolding_all rfl, by (first | assumption | with_unfolding_all assumption), by (first | assumption | (with_unfolding_all exact Nat.le_of_ble_eq_true rfl) | (apply Nat.le_trans; assumption; with_unfolding_all exact Nat.le_of_ble_eq_true rfl) | (apply Nat.lt_of_le_of_lt; assumption; with_unfolding_all exact Nat.le_of_ble_eq_true rfl) | ((try simp only [List.length_map, List.length_append, List.length_cons, List.length_nil, List.length_set, List.length_replicate, List.length_take, List.length_drop, List.length_reverse]); first | assumption | lia) | decide), ?_⟩ | refine s_unpack ?_ | refine k_ref (Prg.keep (by assumption) (by decide)) ?_ | (refine e_glob (g_divrem_limb (by assumption)) ?_))
  refine call_v (divrem_limb_ok P hk hm hd) ?_
  repeat (with_reducible first | (refine x_name ?_; refine ⟨_, by with_unfolding_all rfl, ?_⟩) | refine e_nat ?_ | refine l_cons ?_ | refine ⟨rfl, ?_⟩ | refine sto_l ?_ | refine ⟨_, rfl, ?_⟩ | refine t_cmp ?_ | refine s_return ?_ | refine b_ret ?_ | refine gt_nn ?_ | refine e_tuple ?_ | refine ifExp ?_ | refine xa_name ?_ | refine a_tup ?_ | refine as_consm ?_ | refine as_nilm ?_)
  refine ite_d (fun h => ?_) (fun h => ?_)
  · repeat (with_reducible first | (refine x_name ?_; refine ⟨_, by with_unfolding_all rfl, ?_⟩) | refine l_cons ?_ | refine l_nil ?_ | refine e_list ?_ | refine ⟨[_], by with_unfolding_all rfl, by (first | assumption | (with_unfolding_all exact Nat.le_of_ble_eq_true rfl) | (apply Nat.le_trans; assumption; with_unfolding_all exact Nat.le_of_ble_eq_true rfl) | (apply Nat.lt_of_le_of_lt; assumption; with_unfolding_all exact Nat.le_of_ble_eq_true rfl) | ((try simp only [List.length_map, List.length_append, List.length_cons, List.length_nil, List.length_set, List.length_replicate, List.length_take, List.length_drop, List.length_reverse]); first | assumption | lia) | decide), ?_⟩)
    refine .inl ?_
    repeat (with_reducible first | refine l_nil ?_ | refine then_ret ?_ | refine ⟨[_, _], by with_unfolding_all rfl, by (first | assumption | (with_unfolding_all exact Nat.le_of_ble_eq_true rfl) | (apply Nat.le_trans; assumption; with_unfolding_all exact Nat.le_of_ble_eq_true rfl) | (apply Nat.lt_of_le_of_lt; assumption; with_unfolding_all exact Nat.le_of_ble_eq_true rfl) | ((try simp only [List.length_map, List.length_append, List.length_cons, List.length_nil, List.length_set, List.length_replicate, List.length_take, List.length_drop, List.length_reverse]); first | assumption | lia) | decide), ?_⟩)
    refine fin_val ?_
    rw [limbs_one hB (d := m % d) ⟨h, Nat.lt_trans (Nat.mod_lt _ hd.1) hd.2⟩]; rfl
  · repeat (with_reducible first | refine l_nil ?_ | refine e_list ?_ | refine ⟨[], rfl, by decide, ?_⟩)
    refine .inl ?_
    repeat (with_reducible first | refine l_nil ?_ | refine then_ret ?_ | refine ⟨[_, _], by with_unfolding_all rfl, by (first | assumption | (with_unfolding_all exact Nat.le_of_ble_eq_true rfl) | (apply Nat.le_trans; assumption; with_unfolding_all exact Nat.le_of_ble_eq_true rfl) | (apply Nat.lt_of_le_of_lt; assumption; with_unfolding_all exact Nat.le_of_ble_eq_true rfl) | ((try simp only [List.length_map, List.length_append, List.length_cons, List.length_nil, List.length_set, List.length_replicate, List.length_take, List.length_drop, List.length_reverse]); first | assumption | lia) | decide), ?_⟩)
    refine fin_val ?_
    rw [show m % d = 0 by lia, limbs_zero]; rfl
theorem guessed_ok (P : Prg K ad) {k t0 t1 t2 v1 v2 : Nat} (hk : 1 ≤ k ∧ k ≤ 20) (h0 : t0 < 2 ^ k) (h1 : t1 < 2 ^ k) (h2 : t2 < 2 ^ k) (hv1 : 0 < v1 ∧ v1 < 2 ^ k) (hv2 : v2 < 2 ^ k) :
    FCall prog w K 1 (ad 24) [] [row [t0, t1, t2], .int v1, .int v2, .int k] (fun r _ => r = .val (.int (min (((t2 * 2 ^ k + t1) * 2 ^ k + t0) / (v1 * 2 ^ k + v2)) (2 ^ k - 1) : Nat))) := by
  have hB := two_le_pow hk.1
  have hB2 : 2 ^ k ≤ 2 ^ 20 := Nat.pow_le_pow_right (by decide) hk.2
  have e0 : [t0, t1, t2][0]? = some t0 := rfl
  have e1 : [t0, t1, t2][1]? = some t1 := rfl
  have e2 : [t0, t1, t2][2]? = some t2 := rfl
  refine enter (P.fn 24 (by decide)) [Nm "top", Nm "first", Nm "second", Nm "w"] (by (intro nm q doc pm an cdv ct vals h; obtain ⟨a, b, c, d, e⟩ := len4 h; subst e; with_unfolding_all rfl)) (fun _ => rfl) (by decide) rfl [(Nm "top", .pv (row [t0, t1, t2])), (Nm "first", pn v1), (Nm "second", pn v2), (Nm "w", pn k)] [] rfl rfl ?_
  intro bs L q cd hl hc
  obtain ⟨H, hH⟩ : ∃ H, H = t2 * 2 ^ k + t1 := ⟨_, rfl⟩
  have hHs : H < 2 ^ 40 := by
    have : t2 * 2 ^ k ≤ (2 ^ 20 - 1) * 2 ^ 20 := Nat.mul_le_mul (by lia) hB2
    lia
  have hsub : min (H / v1) (2 ^ k - 1) * v1 ≤ H := Nat.le_trans (Nat.mul_le_mul_right _ (Nat.min_le_left _ _)) (Nat.div_mul_le_self _ _)
  have hsub' := hsub
  rw [hH] at hsub'
  refine b_next ?_
  repeat (with_reducible first | (refine x_name ?_; refine ⟨_, by with_unfolding_all rfl, ?_⟩) | refine e_nat ?_ | refine l_cons ?_ | refine l_nil ?_ | refine e_bin ?_ | refine ⟨rfl, ?_⟩ | refine sto_l ?_ | refine e_sub ?_ | refine e_call ?_ | refine x_ix ?_ | refine ⟨_, _, _, _, by with_unfolding_all rfl, by (first | assumption | with_unfolding_all assumption), by (first | assumption | (with_unfolding_all exact Nat.le_of_ble_eq_true rfl) | (apply Nat.le_trans; assumption; with_unfolding_all exact Nat.le_of_ble_eq_true rfl) | (apply Nat.lt_of_le_of_lt; assumption; with_unfolding_all exact Nat.le_of_ble_eq_true rfl) | ((try simp only [List.length_map, List.length_append, List.length_cons, List.length_nil, List.length_set, List.length_replicate, List.length_take, List.length_drop, List.length_reverse]); first | assumption | lia) | decide), ?_⟩ | refine x_assign ?_ | refine x_sw2 ?_ | refine ⟨_, _, rfl, ?_⟩ | refine b_while ?_ | refine b_next ?_ | refine k_bi ?_ | (refine sub_nn ?_ ?_; (first | assumption | (with_unfolding_all exact Nat.le_of_ble_eq_true rfl) | (apply Nat.le_trans; assumption; with_unfolding_all exact Nat.le_of_ble_eq_true rfl) | (apply Nat.lt_of_le_of_lt; assumption; with_unfolding_all exact Nat.le_of_ble_eq_true rfl) | ((try simp only [List.length_map, List.length_append, List.length_cons, List.length_nil, List.length_set, List.length_replicate, List.length_take, List.length_drop, List.length_reverse]); first | assumption | lia) | decide)) | (refine shl1_nn ?_ ?_; (first | assumption | (with_unfolding_all exact Nat.le_of_ble_eq_true rfl) | (apply Nat.le_trans; assumption; with_unfolding_all exact Nat.le_of_ble_eq_true rfl) | (apply Nat.lt_of_le_of_lt; assumption; with_unfolding_all exact Nat.le_of_ble_eq_true rfl) | ((try simp only [List.length_map, List.length_append, List.length_cons, List.length_nil, List.length_set, List.length_replicate, List.length_take, List.length_drop, List.length_reverse]); first | assumption | lia) | decide)) | (refine shl_nn ?_ ?_ ?_; (first | assumption | (with_unfolding_all exact Nat.le_of_ble_eq_true rfl) | (apply Nat.le_trans; assumption; with_unfolding_all exact Nat.le_of_ble_eq_true rfl) | (apply Nat.lt_of_le_of_lt; assumption; with_unfolding_all exact Nat.le_of_ble_eq_true rfl) | ((try simp only [List.length_map, List.length_append, List.length_cons, List.length_nil, List.length_set, List.length_replicate, List.length_take, List.length_drop, List.length_reverse]); first | assumption | lia) | decide); (first | assumption | (with_unfolding_all exact Nat.le_of_ble_eq_true rfl) | (apply Nat.le_trans; assumption; with_unfolding_all exact Nat.le_of_ble_eq_true rfl) | (apply Nat.lt_of_le_of_lt; assumption; with_unfolding_all exact Nat.le_of_ble_eq_true rfl) | ((try simp only [List.length_map, List.length_append, List.length_cons, List.length_nil, List.length_set, List.length_replicate, List.length_take, List.length_drop, List.length_reverse]); first | assumption | lia) | decide)) | (refine mul_nn ?_ ?_; (first | assumption | (with_unfolding_all exact Nat.le_of_ble_eq_true rfl) | (apply Nat.le_trans; assumption; with_unfolding_all exact Nat.le_of_ble_eq_true rfl) | (apply Nat.lt_of_le_of_lt; assumption; with_unfolding_all exact Nat.le_of_ble_eq_true rfl) | ((try simp only [List.length_map, List.length_append, List.length_cons, List.length_nil, List.length_set, List.length_replicate, List.length_take, List.length_drop, List.length_reverse]); first | assumption | lia) | decide)) | (refine div_nn ?_ ?_ ?_; (first | assumption | (with_unfolding_all exact Nat.le_of_ble_eq_true rfl) | (apply Nat.le_trans; assumption; with_unfolding_all exact Nat.le_of_ble_eq_true rfl) | (apply Nat.lt_of_le_of_lt; assumption; with_unfolding_all exact Nat.le_of_ble_eq_true rfl) | ((try simp only [List.length_map, List.length_append, List.length_cons, List.length_nil, List.length_set, List.length_replicate, List.length_take, List.length_drop, List.length_reverse]); first | assumption | lia) | decide); (first | assumption | (with_unfolding_all exact Nat.le_of_ble_eq_true rfl) | (apply Nat.le_trans; assumption; with_unfolding_all exact Nat.le_of_ble_eq_true rfl) | (apply Nat.lt_of_le_of_lt; assumption; with_unfolding_all exact Nat.le_of_ble_eq_true rfl) | ((try simp only [List.length_map, List.length_append, List.length_cons, List.length_nil, List.length_set, List.length_replicate, List.length_take, List.length_drop, List.length_reverse]); first | assumption | lia) | decide)) | (refine orh_nn ?_ ?_; (first | assumption | (with_unfolding_all exact Nat.le_of_ble_eq_true rfl) | (apply Nat.le_trans; assumption; with_unfolding_all exact Nat.le_of_ble_eq_true rfl) | (apply Nat.lt_of_le_of_lt; assumption; with_unfolding_all exact Nat.le_of_ble_eq_true rfl) | ((try simp only [List.length_map, List.length_append, List.length_cons, List.length_nil, List.length_set, List.length_replicate, List.length_take, List.length_drop, List.length_reverse]); first | assumption | lia) | decide)) | refine min_nn ?_ | refine b_min (by assumption) ?_)
  rw [← hH]
  refine W.state [(Nm "top", .pv (row [t0, t1, t2])), (Nm "first", pn v1), (Nm "second", pn v2), (Nm "w", pn k), (Nm "limb", pn (min (H / v1) (2 ^ k - 1))), (Nm "rest", pn (H - min (H / v1) (2 ^ k - 1) * v1)), (Nm "base", pn (2 ^ k))] [] ?_
  let I1 : Nat → St → Prop := fun l σ => σ = ⟨[(Nm "top", .pv (row [t0, t1, t2])), (Nm "first", pn v1), (Nm "second", pn v2), (Nm "w", pn k), (Nm "limb", pn l), (Nm "rest", pn (H - l * v1)), (Nm "base", pn (2 ^ k))], []⟩ ∧ l ≤ 2 ^ k - 1 ∧ l * v1 ≤ H ∧ ∀ p, p ≤ 2 ^ k - 1 → p * (v1 * 2 ^ k + v2) ≤ H * 2 ^ k + t0 → p ≤ l
  refine s_while I1 (min (H / v1) (2 ^ k - 1)) ⟨rfl, Nat.min_le_right _ _, hsub, ?_⟩ ?_
  · intro p hp hpT
    refine Nat.le_min.mpr ⟨(Nat.le_div_iff_mul_le hv1.1).mpr ?_, hp⟩
    have : p * v1 * 2 ^ k < (H + 1) * 2 ^ k := by
      rw [Nat.mul_add, ← Nat.mul_assoc] at hpT
      rw [Nat.add_mul]; lia
    exact Nat.le_of_lt_succ (Nat.lt_of_mul_lt_mul_right this)
  · rintro l _ ⟨rfl, hl1, hl2, hmax⟩
    have hls : l < 2 ^ 60 ∨ v2 < 2 ^ 60 := .inl (by lia)
    have hrs : H - l * v1 < 2 ^ 60 := by lia
    obtain ⟨r, hr⟩ : ∃ r, H = l * v1 + r := ⟨H - l * v1, by lia⟩
    have hr2 : H - l * v1 = r := by lia
    rw [hr2]
    rw [hr2] at hrs
    have done : l * (v1 * 2 ^ k + v2) ≤ H * 2 ^ k + t0 → l = min ((H * 2 ^ k + t0) / (v1 * 2 ^ k + v2)) (2 ^ k - 1) := fun h => by
      have hV : 0 < v1 * 2 ^ k + v2 := Nat.lt_of_lt_of_le (Nat.mul_pos hv1.1 (by lia)) (Nat.le_add_right _ _)
      refine Nat.le_antisymm (Nat.le_min.mpr ⟨(Nat.le_div_iff_mul_le hV).mpr h, hl1⟩) (hmax _ (Nat.min_le_right _ _) ?_)
      exact Nat.le_trans (Nat.mul_le_mul_right _ (Nat.min_le_left _ _)) (Nat.div_mul_le_self _ _)
    have eT : l * (v1 * 2 ^ k + v2) = l * v1 * 2 ^ k + l * v2 := by rw [Nat.mul_add, Nat.mul_assoc]
    have eH : H * 2 ^ k = l * v1 * 2 ^ k + r * 2 ^ k := by rw [hr, Nat.add_mul]
    repeat (with_reducible first | (refine x_name ?_; refine ⟨_, by with_unfolding_all rfl, ?_⟩) | refine ⟨_, rfl, ?_⟩ | refine t_cmp ?_ | refine lt_nn ?_ | refine t_bool ?_ | refine all_and ?_)
    refine ite_d (fun h1 => ?_) (fun h1 => ?_)
    · repeat (with_reducible first | (refine x_name ?_; refine ⟨_, by with_unfolding_all rfl, ?_⟩) | refine e_nat ?_ | refine e_bin ?_ | refine ⟨_, rfl, ?_⟩ | refine t_cmp ?_ | refine e_sub ?_ | refine x_ix ?_ | refine ⟨_, _, _, _, by with_unfolding_all rfl, by (first | assumption | with_unfolding_all assumption), by (first | assumption | (with_unfolding_all exact Nat.le_of_ble_eq_true rfl) | (apply Nat.le_trans; assumption; with_unfolding_all exact Nat.le_of_ble_eq_true rfl) | (apply Nat.lt_of_le_of_lt; assumption; with_unfolding_all exact Nat.le_of_ble_eq_true rfl) | ((try simp only [List.length_map, List.length_append, List.length_cons, List.length_nil, List.length_set, List.length_replicate, List.length_take, List.length_drop, List.length_reverse]); first | assumption | lia) | decide), ?_⟩ | (refine shl_nn ?_ ?_ ?_; (first | assumption | (with_unfolding_all exact Nat.le_of_ble_eq_true rfl) | (apply Nat.le_trans; assumption; with_unfolding_all exact Nat.le_of_ble_eq_true rfl) | (apply Nat.lt_of_le_of_lt; assumption; with_unfolding_all exact Nat.le_of_ble_eq_true rfl) | ((try simp only [List.length_map, List.length_append, List.length_cons, List.length_nil, List.length_set, List.length_replicate, List.length_take, List.length_drop, List.length_reverse]); first | assumption | lia) | decide); (first | assumption | (with_unfolding_all exact Nat.le_of_ble_eq_true rfl) | (apply Nat.le_trans; assumption; with_unfolding_all exact Nat.le_of_ble_eq_true rfl) | (apply Nat.lt_of_le_of_lt; assumption; with_unfolding_all exact Nat.le_of_ble_eq_true rfl) | ((try simp only [List.length_map, List.length_append, List.length_cons, List.length_nil, List.length_set, List.length_replicate, List.length_take, List.length_drop, List.length_reverse]); first | assumption | lia) | decide)) | (refine mul_nn ?_ ?_; (first | assumption | (with_unfolding_all exact Nat.le_of_ble_eq_true rfl) | (apply Nat.le_trans; assumption; with_unfolding_all exact Nat.le_of_ble_eq_true rfl) | (apply Nat.lt_of_le_of_lt; assumption; with_unfolding_all exact Nat.le_of_ble_eq_true rfl) | ((try simp only [List.length_map, List.length_append, List.length_cons, List.length_nil, List.length_set, List.length_replicate, List.length_take, List.length_drop, List.length_reverse]); first | assumption | lia) | decide)) | (refine orh_nn ?_ ?_; (first | assumption | (with_unfolding_all exact Nat.le_of_ble_eq_true rfl) | (apply Nat.le_trans; assumption; with_unfolding_all exact Nat.le_of_ble_eq_true rfl) | (apply Nat.lt_of_le_of_lt; assumption; with_unfolding_all exact Nat.le_of_ble_eq_true rfl) | ((try simp only [List.length_map, List.length_append, List.length_cons, List.length_nil, List.length_set, List.length_replicate, List.length_take, List.length_drop, List.length_reverse]); first | assumption | lia) | decide)) | refine gt_nn ?_ | refine all_and ?_)
      refine ite_d (fun h2 => ?_) (fun h2 => ?_)
      · have hl0 : 1 ≤ l := by
          rcases Nat.eq_zero_or_pos l with e | e
          · subst e; simp at h2
          · exact e
        repeat (with_reducible first | (refine x_name ?_; refine ⟨_, by with_unfolding_all rfl, ?_⟩) | refine e_nat ?_ | refine ⟨rfl, ?_⟩ | refine sto_l ?_ | refine ⟨_, rfl, ?_⟩ | refine x_aug ?_ | refine b_nil ?_ | refine b_next ?_ | refine ite_tt ?_ | refine iadd_nn ?_ | (refine isub_nn ?_ ?_; (first | assumption | (with_unfolding_all exact Nat.le_of_ble_eq_true rfl) | (apply Nat.le_trans; assumption; with_unfolding_all exact Nat.le_of_ble_eq_true rfl) | (apply Nat.lt_of_le_of_lt; assumption; with_unfolding_all exact Nat.le_of_ble_eq_true rfl) | ((try simp only [List.length_map, List.length_append, List.length_cons, List.length_nil, List.length_set, List.length_replicate, List.length_take, List.length_drop, List.length_reverse]); first | assumption | lia) | decide)) | refine all_and_nil ?_)
        obtain ⟨l', rfl⟩ : ∃ l', l = l' + 1 := ⟨l - 1, by lia⟩
        have e3 : r + v1 = H - l' * v1 := by rw [hr, Nat.add_mul]; lia
        rw [e3]
        refine loop_next (next_of ⟨l', Nat.lt_succ_self _, rfl, by lia, ?_, fun p hp hpT => ?_⟩)
        · exact Nat.le_trans (Nat.mul_le_mul_right _ (Nat.le_succ _)) hl2
        · have h3 := hmax p hp hpT
          have h4 : p ≠ l' + 1 := by
            rintro rfl
            rw [eT] at hpT; lia
          lia
      · repeat (with_reducible first | (refine x_name ?_; refine ⟨_, by with_unfolding_all rfl, ?_⟩) | refine s_return ?_ | refine b_ret ?_ | refine then_next ?_ | refine then_ret ?_ | refine ite_ff ?_)
        refine fin_val ?_
        rw [← done (by rw [eT]; lia)]
    · repeat (with_reducible first | (refine x_name ?_; refine ⟨_, by with_unfolding_all rfl, ?_⟩) | refine s_return ?_ | refine b_ret ?_ | refine then_next ?_ | refine then_ret ?_ | refine ite_ff ?_)
      refine fin_val ?_
      rw [← done (by
        have h3 : 2 ^ k * 2 ^ k ≤ r * 2 ^ k := Nat.mul_le_mul_right _ (by lia)
        have h4 : l * v2 ≤ 2 ^ k * 2 ^ k := Nat.mul_le_mul (by lia) (by lia)
        rw [eT]; lia)]
end
end CR
namespace CR
open PySem PySem.W PyProof.Rows
theorem take_set_le {xs : List Nat} {a p v : Nat} (h : a ≤ p) : (xs.set p v).take a = xs.take a := by
  rw [List.take_set, List.set_eq_of_length_le (by rw [List.length_take]; lia)]
theorem sub_digit {B x t : Nat} (hB : 0 < B) (h : ¬ t % B ≤ x) (hx : x < B) : ((x : Int) - (t % B : Nat) + (B : Nat) : Int) = ((x + B - t % B : Nat) : Int) := by
  have := Nat.mod_lt t hB
  lia
/-- after a subtraction of a multiple at a place -/
structure Took (B at' V limb : Nat) (rs rs' : List Nat) (ret s : Nat) : Prop where
  dig : Dig B rs'
  len : rs'.length = rs.length
  low : rs'.take at' = rs.take at'
  high : rs'.drop (at' + s + 1) = rs.drop (at' + s + 1)
  eq : val B rs' + B ^ at' * (limb * V) = val B rs + B ^ (at' + s + 1) * ret
  le : ret ≤ 1
section
variable {prog : Program} {w : World} {K : Frag} {ad : Nat → Addr}
theorem take_away_ok (P : Prg K ad) {k p l V : Nat} {rs ys : List Nat} (hk : 1 ≤ k ∧ k ≤ 20) (hys : ys = limbs (2 ^ k) V) (hn : ys.length ≤ 1000) (hr : rs.length ≤ 2000) (hrd : Dig (2 ^ k) rs) (hp : p + ys.length < rs.length) (hlb : l < 2 ^ k) :
    FCall prog w K 1 (ad 25) [rs.map pnat] [row ys, .int l, .int p, .int k] (fun r o => ∃ rs' ret, r = .val (.int (ret : Nat)) ∧ o = [rs'.map pnat] ∧ Took (2 ^ k) p V l rs rs' ret ys.length) := by
  have hB := two_le_pow hk.1
  have hB2 : 2 ^ k ≤ 2 ^ 20 := Nat.pow_le_pow_right (by decide) hk.2
  have hdy : Dig (2 ^ k) ys := hys ▸ limbs_dig hB V
  have hV : val (2 ^ k) ys = V := hys ▸ val_limbs hB V
  refine enter (P.fn 25 (by decide)) [Nm "rest", Nm "b", Nm "limb", Nm "at", Nm "w"] (by (intro nm q doc pm an cdv ct vals h; obtain ⟨a, b, c, d, e, e'⟩ := len5 h; subst e'; with_unfolding_all rfl)) (fun _ => rfl) (by decide) rfl [(Nm "rest", .own 0), (Nm "b", .pv (row ys)), (Nm "limb", pn l), (Nm "at", pn p), (Nm "w", pn k)] [some (rs.map pnat)] rfl rfl ?_
  intro bs L q cd hl hc
  refine let C : Cx := _; let Z : RF → St → Prop := _; (show WB C _ _ Z from ?_)
  refine b_next ?_
  repeat (with_reducible first | (refine x_name ?_; refine ⟨_, by with_unfolding_all rfl, ?_⟩) | refine e_nat ?_ | refine l_cons ?_ | refine l_nil ?_ | refine e_bin ?_ | refine ⟨rfl, ?_⟩ | refine sto_l ?_ | refine ⟨_, rfl, ?_⟩ | refine x_sw2 ?_ | refine ⟨_, _, rfl, ?_⟩ | refine b_for ?_ | refine s_for ?_ | refine it_enum ?_ | (refine shl1_nn ?_ ?_; (first | assumption | (with_unfolding_all exact Nat.le_of_ble_eq_true rfl) | (apply Nat.le_trans; assumption; with_unfolding_all exact Nat.le_of_ble_eq_true rfl) | (apply Nat.lt_of_le_of_lt; assumption; with_unfolding_all exact Nat.le_of_ble_eq_true rfl) | ((try simp only [List.length_map, List.length_append, List.length_cons, List.length_nil, List.length_set, List.length_replicate, List.length_take, List.length_drop, List.length_reverse]); first | assumption | lia) | decide)) | refine b_enumerate (by assumption) ?_)
  let I1 : Nat → St → Prop := fun j σ => ∃ gs c, σ = ⟨[(Nm "rest", .own 0), (Nm "b", .pv (row ys)), (Nm "limb", pn l), (Nm "at", pn p), (Nm "w", pn k), (Nm "base", pn (2 ^ k)), (Nm "carry", pn c)], [some (gs.map pnat)]⟩ ∧ Dig (2 ^ k) gs ∧ gs.length = rs.length ∧ gs.take p = rs.take p ∧ gs.drop (p + j) = rs.drop (p + j) ∧ c < 2 ^ k ∧ val (2 ^ k) gs + (2 ^ k) ^ p * (l * val (2 ^ k) (ys.take j)) = val (2 ^ k) rs + (2 ^ k) ^ (p + j) * c
  refine for_enum I1
    ⟨rs, 0, rfl, hrd, rfl, rfl, rfl, by lia, by simp [val]⟩ ?_ ?_
  · rintro j y hy _ ⟨gs, c, rfl, hgd, hgl, hglo, hghi, hcB, hv⟩ bs' _ _
    have hyB := hdy.get hy
    have hjl : j < ys.length := (List.getElem?_eq_some_iff.mp hy).1
    obtain ⟨x, hx⟩ : ∃ x, gs[p + j]? = some x := ⟨_, List.getElem?_eq_getElem (by lia)⟩
    have hxB := hgd.get hx
    have hls : l < 2 ^ 60 ∨ y < 2 ^ 60 := .inl (by lia)
    have ht0 := Nat.mod_lt (l * y + c) (show 2 ^ k > 0 by lia)
    have ht1 := Nat.mod_add_div (l * y + c) (2 ^ k)
    have hhi : ∀ v, (gs.set (p + j) v).drop (p + (j + 1)) = rs.drop (p + (j + 1)) := fun v => by
      rw [drop_set_gt (show p + j < p + (j + 1) by lia)]
      have := congrArg (List.drop 1) hghi
      rw [List.drop_drop, List.drop_drop] at this
      exact this
    have hty : l * y + c ≤ (2 ^ k - 1) * 2 ^ k := by
      obtain ⟨b, hb⟩ : ∃ b, 2 ^ k = b + 1 := ⟨2 ^ k - 1, by lia⟩
      have : l * y ≤ b * b := Nat.mul_le_mul (by lia) (by lia)
      rw [hb, Nat.add_sub_cancel, Nat.mul_add]; lia
    have hdiv : (l * y + c) / 2 ^ k < 2 ^ k := (Nat.div_lt_iff_lt_mul (by lia)).mpr (Nat.lt_of_le_of_lt hty (Nat.mul_lt_mul_of_pos_right (by lia) (by lia)))
    have fin : ∀ v c', v + (l * y + c) = x + 2 ^ k * c' → val (2 ^ k) (gs.set (p + j) v) + (2 ^ k) ^ p * (l * val (2 ^ k) (ys.take (j + 1))) = val (2 ^ k) rs + (2 ^ k) ^ (p + (j + 1)) * c' := fun v c' e => by
      have h1 := val_set (B := 2 ^ k) v hx
      rw [val_take _ hy, Nat.mul_add, Nat.mul_add, show p + (j + 1) = p + j + 1 from rfl, Nat.pow_succ, Nat.mul_assoc]
      have e2 : (2 ^ k) ^ p * (l * ((2 ^ k) ^ j * y)) = (2 ^ k) ^ (p + j) * (l * y) := by rw [Nat.pow_add, Nat.mul_assoc, Nat.mul_left_comm l]
      have e3 : (2 ^ k) ^ (p + j) * v + (2 ^ k) ^ (p + j) * (l * y) + (2 ^ k) ^ (p + j) * c = (2 ^ k) ^ (p + j) * x + (2 ^ k) ^ (p + j) * (2 ^ k * c') := by
        rw [← Nat.mul_add, ← Nat.mul_add, ← Nat.mul_add, Nat.add_assoc, e]
      rw [e2]
      lia
    by_cases hge : (l * y + c) % 2 ^ k ≤ x
    · repeat (with_reducible first | (refine x_name ?_; refine ⟨_, by with_unfolding_all rfl, ?_⟩) | refine e_nat ?_ | refine e_bin ?_ | refine ⟨rfl, ?_⟩ | refine sto_l ?_ | refine ⟨_, rfl, ?_⟩ | refine t_cmp ?_ | refine e_sub ?_ | refine x_ix ?_ | refine add_nn ?_ | refine ⟨_, _, _, _, by with_unfolding_all rfl, by (first | assumption | with_unfolding_all assumption), by (first | assumption | (with_unfolding_all exact Nat.le_of_ble_eq_true rfl) | (apply Nat.le_trans; assumption; with_unfolding_all exact Nat.le_of_ble_eq_true rfl) | (apply Nat.lt_of_le_of_lt; assumption; with_unfolding_all exact Nat.le_of_ble_eq_true rfl) | ((try simp only [List.length_map, List.length_append, List.length_cons, List.length_nil, List.length_set, List.length_replicate, List.length_take, List.length_drop, List.length_reverse]); first | assumption | lia) | decide), ?_⟩ | refine x_assign ?_ | refine x_setitem ?_ | refine b_nil ?_ | refine b_next ?_ | (refine ite_f ?_ ?_; (first | assumption | (with_unfolding_all exact Nat.le_of_ble_eq_true rfl) | (apply Nat.le_trans; assumption; with_unfolding_all exact Nat.le_of_ble_eq_true rfl) | (apply Nat.lt_of_le_of_lt; assumption; with_unfolding_all exact Nat.le_of_ble_eq_true rfl) | ((try simp only [List.length_map, List.length_append, List.length_cons, List.length_nil, List.length_set, List.length_replicate, List.length_take, List.length_drop, List.length_reverse]); first | assumption | lia) | decide)) | (refine sub_nn ?_ ?_; (first | assumption | (with_unfolding_all exact Nat.le_of_ble_eq_true rfl) | (apply Nat.le_trans; assumption; with_unfolding_all exact Nat.le_of_ble_eq_true rfl) | (apply Nat.lt_of_le_of_lt; assumption; with_unfolding_all exact Nat.le_of_ble_eq_true rfl) | ((try simp only [List.length_map, List.length_append, List.length_cons, List.length_nil, List.length_set, List.length_replicate, List.length_take, List.length_drop, List.length_reverse]); first | assumption | lia) | decide)) | (refine mul_nn ?_ ?_; (first | assumption | (with_unfolding_all exact Nat.le_of_ble_eq_true rfl) | (apply Nat.le_trans; assumption; with_unfolding_all exact Nat.le_of_ble_eq_true rfl) | (apply Nat.lt_of_le_of_lt; assumption; with_unfolding_all exact Nat.le_of_ble_eq_true rfl) | ((try simp only [List.length_map, List.length_append, List.length_cons, List.length_nil, List.length_set, List.length_replicate, List.length_take, List.length_drop, List.length_reverse]); first | assumption | lia) | decide)) | (refine mod_nn ?_ ?_; (first | assumption | (with_unfolding_all exact Nat.le_of_ble_eq_true rfl) | (apply Nat.le_trans; assumption; with_unfolding_all exact Nat.le_of_ble_eq_true rfl) | (apply Nat.lt_of_le_of_lt; assumption; with_unfolding_all exact Nat.le_of_ble_eq_true rfl) | ((try simp only [List.length_map, List.length_append, List.length_cons, List.length_nil, List.length_set, List.length_replicate, List.length_take, List.length_drop, List.length_reverse]); first | assumption | lia) | decide)) | (refine div_nn ?_ ?_ ?_; (first | assumption | (with_unfolding_all exact Nat.le_of_ble_eq_true rfl) | (apply Nat.le_trans; assumption; with_unfolding_all exact Nat.le_of_ble_eq_true rfl) | (apply Nat.lt_of_le_of_lt; assumption; with_unfolding_all exact Nat.le_of_ble_eq_true rfl) | ((try simp only [List.length_map, List.length_append, List.length_cons, List.length_nil, List.length_set, List.length_replicate, List.length_take, List.length_drop, List.length_reverse]); first | assumption | lia) | decide); (first | assumption | (with_unfolding_all exact Nat.le_of_ble_eq_true rfl) | (apply Nat.le_trans; assumption; with_unfolding_all exact Nat.le_of_ble_eq_true rfl) | (apply Nat.lt_of_le_of_lt; assumption; with_unfolding_all exact Nat.le_of_ble_eq_true rfl) | ((try simp only [List.length_map, List.length_append, List.length_cons, List.length_nil, List.length_set, List.length_replicate, List.length_take, List.length_drop, List.length_reverse]); first | assumption | lia) | decide)) | refine lt_nn ?_ | refine own_q ?_ | (refine set_p ?_; refine ⟨_, by with_unfolding_all rfl, by (first | assumption | (with_unfolding_all exact Nat.le_of_ble_eq_true rfl) | (apply Nat.le_trans; assumption; with_unfolding_all exact Nat.le_of_ble_eq_true rfl) | (apply Nat.lt_of_le_of_lt; assumption; with_unfolding_all exact Nat.le_of_ble_eq_true rfl) | ((try simp only [List.length_map, List.length_append, List.length_cons, List.length_nil, List.length_set, List.length_replicate, List.length_take, List.length_drop, List.length_reverse]); first | assumption | lia) | decide), by (first | assumption | (with_unfolding_all exact Nat.le_of_ble_eq_true rfl) | (apply Nat.le_trans; assumption; with_unfolding_all exact Nat.le_of_ble_eq_true rfl) | (apply Nat.lt_of_le_of_lt; assumption; with_unfolding_all exact Nat.le_of_ble_eq_true rfl) | ((try simp only [List.length_map, List.length_append, List.length_cons, List.length_nil, List.length_set, List.length_replicate, List.length_take, List.length_drop, List.length_reverse]); first | assumption | lia) | decide), ?_⟩) | refine ⟨⟨_, by with_unfolding_all rfl⟩, ?_⟩ | refine ifExp ?_ | refine xa_name ?_ | refine as_cons ?_ | refine as_nil ?_)
      refine loop_next (next_of ⟨gs.set (p + j) (x - (l * y + c) % 2 ^ k), (l * y + c) / 2 ^ k + 0, rfl, hgd.set _ (by lia), List.length_set.trans hgl, by rw [take_set_le (Nat.le_add_right _ _)]; exact hglo, hhi _, hdiv, fin _ _ (by rw [Nat.add_zero]; lia)⟩)
    · repeat (with_reducible first | (refine x_name ?_; refine ⟨_, by with_unfolding_all rfl, ?_⟩) | refine e_nat ?_ | refine e_bin ?_ | refine ⟨rfl, ?_⟩ | refine sto_l ?_ | refine ⟨_, rfl, ?_⟩ | refine t_cmp ?_ | refine e_sub ?_ | refine x_ix ?_ | refine add_nn ?_ | refine ⟨_, _, _, _, by with_unfolding_all rfl, by (first | assumption | with_unfolding_all assumption), by (first | assumption | (with_unfolding_all exact Nat.le_of_ble_eq_true rfl) | (apply Nat.le_trans; assumption; with_unfolding_all exact Nat.le_of_ble_eq_true rfl) | (apply Nat.lt_of_le_of_lt; assumption; with_unfolding_all exact Nat.le_of_ble_eq_true rfl) | ((try simp only [List.length_map, List.length_append, List.length_cons, List.length_nil, List.length_set, List.length_replicate, List.length_take, List.length_drop, List.length_reverse]); first | assumption | lia) | decide), ?_⟩ | refine x_assign ?_ | refine x_setitem ?_ | refine b_next ?_ | (refine ite_t ?_ ?_; (first | assumption | (with_unfolding_all exact Nat.le_of_ble_eq_true rfl) | (apply Nat.le_trans; assumption; with_unfolding_all exact Nat.le_of_ble_eq_true rfl) | (apply Nat.lt_of_le_of_lt; assumption; with_unfolding_all exact Nat.le_of_ble_eq_true rfl) | ((try simp only [List.length_map, List.length_append, List.length_cons, List.length_nil, List.length_set, List.length_replicate, List.length_take, List.length_drop, List.length_reverse]); first | assumption | lia) | decide)) | refine sub_ii ?_ | (refine mul_nn ?_ ?_; (first | assumption | (with_unfolding_all exact Nat.le_of_ble_eq_true rfl) | (apply Nat.le_trans; assumption; with_unfolding_all exact Nat.le_of_ble_eq_true rfl) | (apply Nat.lt_of_le_of_lt; assumption; with_unfolding_all exact Nat.le_of_ble_eq_true rfl) | ((try simp only [List.length_map, List.length_append, List.length_cons, List.length_nil, List.length_set, List.length_replicate, List.length_take, List.length_drop, List.length_reverse]); first | assumption | lia) | decide)) | (refine mod_nn ?_ ?_; (first | assumption | (with_unfolding_all exact Nat.le_of_ble_eq_true rfl) | (apply Nat.le_trans; assumption; with_unfolding_all exact Nat.le_of_ble_eq_true rfl) | (apply Nat.lt_of_le_of_lt; assumption; with_unfolding_all exact Nat.le_of_ble_eq_true rfl) | ((try simp only [List.length_map, List.length_append, List.length_cons, List.length_nil, List.length_set, List.length_replicate, List.length_take, List.length_drop, List.length_reverse]); first | assumption | lia) | decide)) | (refine div_nn ?_ ?_ ?_; (first | assumption | (with_unfolding_all exact Nat.le_of_ble_eq_true rfl) | (apply Nat.le_trans; assumption; with_unfolding_all exact Nat.le_of_ble_eq_true rfl) | (apply Nat.lt_of_le_of_lt; assumption; with_unfolding_all exact Nat.le_of_ble_eq_true rfl) | ((try simp only [List.length_map, List.length_append, List.length_cons, List.length_nil, List.length_set, List.length_replicate, List.length_take, List.length_drop, List.length_reverse]); first | assumption | lia) | decide); (first | assumption | (with_unfolding_all exact Nat.le_of_ble_eq_true rfl) | (apply Nat.le_trans; assumption; with_unfolding_all exact Nat.le_of_ble_eq_true rfl) | (apply Nat.lt_of_le_of_lt; assumption; with_unfolding_all exact Nat.le_of_ble_eq_true rfl) | ((try simp only [List.length_map, List.length_append, List.length_cons, List.length_nil, List.length_set, List.length_replicate, List.length_take, List.length_drop, List.length_reverse]); first | assumption | lia) | decide)) | refine lt_ii ?_ | refine add_ii ?_ | refine own_q ?_ | refine ⟨⟨_, by with_unfolding_all rfl⟩, ?_⟩ | refine ifExp ?_ | refine xa_name ?_ | refine as_cons ?_ | refine as_nil ?_)
      rw [sub_digit (by lia) hge hxB]
      repeat (with_reducible first | refine ⟨rfl, ?_⟩ | refine b_nil ?_ | (refine set_p ?_; refine ⟨_, by with_unfolding_all rfl, by (first | assumption | (with_unfolding_all exact Nat.le_of_ble_eq_true rfl) | (apply Nat.le_trans; assumption; with_unfolding_all exact Nat.le_of_ble_eq_true rfl) | (apply Nat.lt_of_le_of_lt; assumption; with_unfolding_all exact Nat.le_of_ble_eq_true rfl) | ((try simp only [List.length_map, List.length_append, List.length_cons, List.length_nil, List.length_set, List.length_replicate, List.length_take, List.length_drop, List.length_reverse]); first | assumption | lia) | decide), by (first | assumption | (with_unfolding_all exact Nat.le_of_ble_eq_true rfl) | (apply Nat.le_trans; assumption; with_unfolding_all exact Nat.le_of_ble_eq_true rfl) | (apply Nat.lt_of_le_of_lt; assumption; with_unfolding_all exact Nat.le_of_ble_eq_true rfl) | ((try simp only [List.length_map, List.length_append, List.length_cons, List.length_nil, List.length_set, List.length_replicate, List.length_take, List.length_drop, List.length_reverse]); first | assumption | lia) | decide), ?_⟩))
      refine loop_next (next_of ⟨gs.set (p + j) (x + 2 ^ k - (l * y + c) % 2 ^ k), (l * y + c) / 2 ^ k + 1, rfl, hgd.set _ (by lia), List.length_set.trans hgl, by rw [take_set_le (Nat.le_add_right _ _)]; exact hglo, hhi _, ?_, fin _ _ (by rw [Nat.mul_add]; lia)⟩)
      refine Decidable.byContradiction fun h => ?_
      have h1 : 2 ^ k * (2 ^ k - 1) ≤ 2 ^ k * ((l * y + c) / 2 ^ k) := Nat.mul_le_mul_left _ (by lia)
      rw [Nat.mul_comm _ (2 ^ k)] at hty
      lia
  · rintro _ ⟨gs, c, rfl, hgd, hgl, hglo, hghi, hcB, hv⟩
    rw [List.take_length, hV] at hv
    obtain ⟨x, hx⟩ : ∃ x, gs[p + ys.length]? = some x := ⟨_, List.getElem?_eq_getElem (by lia)⟩
    have hxB := hgd.get hx
    have hhi : ∀ v, (gs.set (p + ys.length) v).drop (p + ys.length + 1) = rs.drop (p + ys.length + 1) := fun v => by
      rw [drop_set_gt (Nat.lt_succ_self _)]
      have := congrArg (List.drop 1) hghi
      rw [List.drop_drop, List.drop_drop] at this
      exact this
    have fin : ∀ v ret, v + c = x + 2 ^ k * ret → val (2 ^ k) (gs.set (p + ys.length) v) + (2 ^ k) ^ p * (l * V) = val (2 ^ k) rs + (2 ^ k) ^ (p + ys.length + 1) * ret := fun v ret e => by
      have h1 := val_set (B := 2 ^ k) v hx
      have e3 : (2 ^ k) ^ (p + ys.length) * v + (2 ^ k) ^ (p + ys.length) * c = (2 ^ k) ^ (p + ys.length) * x + (2 ^ k) ^ (p + ys.length) * (2 ^ k * ret) := by rw [← Nat.mul_add, ← Nat.mul_add, e]
      rw [Nat.pow_succ, Nat.mul_assoc]
      lia
    by_cases hge : c ≤ x
    · repeat (with_reducible first | (refine x_name ?_; refine ⟨_, by with_unfolding_all rfl, ?_⟩) | refine e_nat ?_ | refine l_cons ?_ | refine l_nil ?_ | refine e_bin ?_ | refine ⟨rfl, ?_⟩ | refine sto_l ?_ | refine ⟨_, rfl, ?_⟩ | refine t_cmp ?_ | refine e_sub ?_ | refine e_call ?_ | refine x_ix ?_ | refine add_nn ?_ | refine ⟨_, _, _, _, by with_unfolding_all rfl, by (first | assumption | with_unfolding_all assumption), by (first | assumption | (with_unfolding_all exact Nat.le_of_ble_eq_true rfl) | (apply Nat.le_trans; assumption; with_unfolding_all exact Nat.le_of_ble_eq_true rfl) | (apply Nat.lt_of_le_of_lt; assumption; with_unfolding_all exact Nat.le_of_ble_eq_true rfl) | ((try simp only [List.length_map, List.length_append, List.length_cons, List.length_nil, List.length_set, List.length_replicate, List.length_take, List.length_drop, List.length_reverse]); first | assumption | lia) | decide), ?_⟩ | refine ⟨_, _, _, by with_unfolding_all rfl, by (first | assumption | (with_unfolding_all exact Nat.le_of_ble_eq_true rfl) | (apply Nat.le_trans; assumption; with_unfolding_all exact Nat.le_of_ble_eq_true rfl) | (apply Nat.lt_of_le_of_lt; assumption; with_unfolding_all exact Nat.le_of_ble_eq_true rfl) | ((try simp only [List.length_map, List.length_append, List.length_cons, List.length_nil, List.length_set, List.length_replicate, List.length_take, List.length_drop, List.length_reverse]); first | assumption | lia) | decide), ?_⟩ | refine x_assign ?_ | refine x_setitem ?_ | refine s_return ?_ | refine b_ret ?_ | refine b_next ?_ | refine then_next ?_ | refine then_ret ?_ | (refine ite_f ?_ ?_; (first | assumption | (with_unfolding_all exact Nat.le_of_ble_eq_true rfl) | (apply Nat.le_trans; assumption; with_unfolding_all exact Nat.le_of_ble_eq_true rfl) | (apply Nat.lt_of_le_of_lt; assumption; with_unfolding_all exact Nat.le_of_ble_eq_true rfl) | ((try simp only [List.length_map, List.length_append, List.length_cons, List.length_nil, List.length_set, List.length_replicate, List.length_take, List.length_drop, List.length_reverse]); first | assumption | lia) | decide)) | refine k_bi ?_ | refine x_len ?_ | (refine sub_nn ?_ ?_; (first | assumption | (with_unfolding_all exact Nat.le_of_ble_eq_true rfl) | (apply Nat.le_trans; assumption; with_unfolding_all exact Nat.le_of_ble_eq_true rfl) | (apply Nat.lt_of_le_of_lt; assumption; with_unfolding_all exact Nat.le_of_ble_eq_true rfl) | ((try simp only [List.length_map, List.length_append, List.length_cons, List.length_nil, List.length_set, List.length_replicate, List.length_take, List.length_drop, List.length_reverse]); first | assumption | lia) | decide)) | refine lt_nn ?_ | refine own_q ?_ | (refine set_p ?_; refine ⟨_, by with_unfolding_all rfl, by (first | assumption | (with_unfolding_all exact Nat.le_of_ble_eq_true rfl) | (apply Nat.le_trans; assumption; with_unfolding_all exact Nat.le_of_ble_eq_true rfl) | (apply Nat.lt_of_le_of_lt; assumption; with_unfolding_all exact Nat.le_of_ble_eq_true rfl) | ((try simp only [List.length_map, List.length_append, List.length_cons, List.length_nil, List.length_set, List.length_replicate, List.length_take, List.length_drop, List.length_reverse]); first | assumption | lia) | decide), by (first | assumption | (with_unfolding_all exact Nat.le_of_ble_eq_true rfl) | (apply Nat.le_trans; assumption; with_unfolding_all exact Nat.le_of_ble_eq_true rfl) | (apply Nat.lt_of_le_of_lt; assumption; with_unfolding_all exact Nat.le_of_ble_eq_true rfl) | ((try simp only [List.length_map, List.length_append, List.length_cons, List.length_nil, List.length_set, List.length_replicate, List.length_take, List.length_drop, List.length_reverse]); first | assumption | lia) | decide), ?_⟩) | refine ⟨⟨_, by with_unfolding_all rfl⟩, ?_⟩ | refine ifExp ?_ | refine b_len (by assumption) ?_)
      exact fin_val1 rfl ⟨_, 0, rfl, rfl, hgd.set _ (by lia), List.length_set.trans hgl, by rw [take_set_le (Nat.le_add_right _ _)]; exact hglo, hhi _, fin _ 0 (by lia), by lia⟩
    · repeat (with_reducible first | (refine x_name ?_; refine ⟨_, by with_unfolding_all rfl, ?_⟩) | refine e_nat ?_ | refine l_cons ?_ | refine l_nil ?_ | refine e_bin ?_ | refine ⟨rfl, ?_⟩ | refine sto_l ?_ | refine ⟨_, rfl, ?_⟩ | refine t_cmp ?_ | refine e_sub ?_ | refine e_call ?_ | refine x_ix ?_ | refine add_nn ?_ | refine ⟨_, _, _, _, by with_unfolding_all rfl, by (first | assumption | with_unfolding_all assumption), by (first | assumption | (with_unfolding_all exact Nat.le_of_ble_eq_true rfl) | (apply Nat.le_trans; assumption; with_unfolding_all exact Nat.le_of_ble_eq_true rfl) | (apply Nat.lt_of_le_of_lt; assumption; with_unfolding_all exact Nat.le_of_ble_eq_true rfl) | ((try simp only [List.length_map, List.length_append, List.length_cons, List.length_nil, List.length_set, List.length_replicate, List.length_take, List.length_drop, List.length_reverse]); first | assumption | lia) | decide), ?_⟩ | refine ⟨_, _, _, by with_unfolding_all rfl, by (first | assumption | (with_unfolding_all exact Nat.le_of_ble_eq_true rfl) | (apply Nat.le_trans; assumption; with_unfolding_all exact Nat.le_of_ble_eq_true rfl) | (apply Nat.lt_of_le_of_lt; assumption; with_unfolding_all exact Nat.le_of_ble_eq_true rfl) | ((try simp only [List.length_map, List.length_append, List.length_cons, List.length_nil, List.length_set, List.length_replicate, List.length_take, List.length_drop, List.length_reverse]); first | assumption | lia) | decide), ?_⟩ | refine x_assign ?_ | refine x_setitem ?_ | refine b_next ?_ | refine then_next ?_ | (refine ite_t ?_ ?_; (first | assumption | (with_unfolding_all exact Nat.le_of_ble_eq_true rfl) | (apply Nat.le_trans; assumption; with_unfolding_all exact Nat.le_of_ble_eq_true rfl) | (apply Nat.lt_of_le_of_lt; assumption; with_unfolding_all exact Nat.le_of_ble_eq_true rfl) | ((try simp only [List.length_map, List.length_append, List.length_cons, List.length_nil, List.length_set, List.length_replicate, List.length_take, List.length_drop, List.length_reverse]); first | assumption | lia) | decide)) | refine k_bi ?_ | refine x_len ?_ | refine sub_ii ?_ | refine lt_ii ?_ | refine add_ii ?_ | refine own_q ?_ | refine ⟨⟨_, by with_unfolding_all rfl⟩, ?_⟩ | refine ifExp ?_ | refine b_len (by assumption) ?_)
      have e : ((x : Int) - (c : Nat) + ((2 ^ k : Nat) : Int)) = ((x + 2 ^ k - c : Nat) : Int) := by lia
      rw [e]
      repeat (with_reducible first | (refine x_name ?_; refine ⟨_, by with_unfolding_all rfl, ?_⟩) | refine e_nat ?_ | refine ⟨rfl, ?_⟩ | refine ⟨_, rfl, ?_⟩ | refine t_cmp ?_ | refine s_return ?_ | refine b_ret ?_ | refine then_ret ?_ | (refine ite_t ?_ ?_; (first | assumption | (with_unfolding_all exact Nat.le_of_ble_eq_true rfl) | (apply Nat.le_trans; assumption; with_unfolding_all exact Nat.le_of_ble_eq_true rfl) | (apply Nat.lt_of_le_of_lt; assumption; with_unfolding_all exact Nat.le_of_ble_eq_true rfl) | ((try simp only [List.length_map, List.length_append, List.length_cons, List.length_nil, List.length_set, List.length_replicate, List.length_take, List.length_drop, List.length_reverse]); first | assumption | lia) | decide)) | refine lt_ii ?_ | (refine set_p ?_; refine ⟨_, by with_unfolding_all rfl, by (first | assumption | (with_unfolding_all exact Nat.le_of_ble_eq_true rfl) | (apply Nat.le_trans; assumption; with_unfolding_all exact Nat.le_of_ble_eq_true rfl) | (apply Nat.lt_of_le_of_lt; assumption; with_unfolding_all exact Nat.le_of_ble_eq_true rfl) | ((try simp only [List.length_map, List.length_append, List.length_cons, List.length_nil, List.length_set, List.length_replicate, List.length_take, List.length_drop, List.length_reverse]); first | assumption | lia) | decide), by (first | assumption | (with_unfolding_all exact Nat.le_of_ble_eq_true rfl) | (apply Nat.le_trans; assumption; with_unfolding_all exact Nat.le_of_ble_eq_true rfl) | (apply Nat.lt_of_le_of_lt; assumption; with_unfolding_all exact Nat.le_of_ble_eq_true rfl) | ((try simp only [List.length_map, List.length_append, List.length_cons, List.length_nil, List.length_set, List.length_replicate, List.length_take, List.length_drop, List.length_reverse]); first | assumption | lia) | decide), ?_⟩) | refine ifExp ?_)
      exact fin_val1 rfl ⟨_, 1, rfl, rfl, hgd.set _ (by lia), List.length_set.trans hgl, by rw [take_set_le (Nat.le_add_right _ _)]; exact hglo, hhi _, fin _ 1 (by lia), by lia⟩
theorem put_back_ok (P : Prg K ad) {k p V : Nat} {rs ys : List Nat} (hk : 1 ≤ k ∧ k ≤ 20) (hys : ys = limbs (2 ^ k) V) (hn : ys.length ≤ 1000) (hr : rs.length ≤ 2000) (hrd : Dig (2 ^ k) rs) (hp : p + ys.length < rs.length) :
    FCall prog w K 1 (ad 26) [rs.map pnat] [row ys, .int p, .int k] (fun r o => r = .val .none ∧ ∃ rs' c, o = [rs'.map pnat] ∧ Dig (2 ^ k) rs' ∧ rs'.length = rs.length ∧ rs'.take p = rs.take p ∧ rs'.drop (p + ys.length + 1) = rs.drop (p + ys.length + 1) ∧ val (2 ^ k) rs' + (2 ^ k) ^ (p + ys.length + 1) * c = val (2 ^ k) rs + (2 ^ k) ^ p * V) := by
  have hB := two_le_pow hk.1
  have hB2 : 2 ^ k ≤ 2 ^ 20 := Nat.pow_le_pow_right (by decide) hk.2
  have hdy : Dig (2 ^ k) ys := hys ▸ limbs_dig hB V
  have hV : val (2 ^ k) ys = V := hys ▸ val_limbs hB V
  refine enter (P.fn 26 (by decide)) [Nm "rest", Nm "b", Nm "at", Nm "w"] (by (intro nm q doc pm an cdv ct vals h; obtain ⟨a, b, c, d, e⟩ := len4 h; subst e; with_unfolding_all rfl)) (fun _ => rfl) (by decide) rfl [(Nm "rest", .own 0), (Nm "b", .pv (row ys)), (Nm "at", pn p), (Nm "w", pn k)] [some (rs.map pnat)] rfl rfl ?_
  intro bs L q cd hl hc
  refine let C : Cx := _; let Z : RF → St → Prop := _; (show WB C _ _ Z from ?_)
  refine b_next ?_
  repeat (with_reducible first | (refine x_name ?_; refine ⟨_, by with_unfolding_all rfl, ?_⟩) | refine e_nat ?_ | refine l_cons ?_ | refine l_nil ?_ | refine e_bin ?_ | refine ⟨rfl, ?_⟩ | refine sto_l ?_ | refine ⟨_, rfl, ?_⟩ | refine x_sw2 ?_ | refine ⟨_, _, rfl, ?_⟩ | refine b_for ?_ | refine s_for ?_ | refine it_enum ?_ | (refine sub_nn ?_ ?_; (first | assumption | (with_unfolding_all exact Nat.le_of_ble_eq_true rfl) | (apply Nat.le_trans; assumption; with_unfolding_all exact Nat.le_of_ble_eq_true rfl) | (apply Nat.lt_of_le_of_lt; assumption; with_unfolding_all exact Nat.le_of_ble_eq_true rfl) | ((try simp only [List.length_map, List.length_append, List.length_cons, List.length_nil, List.length_set, List.length_replicate, List.length_take, List.length_drop, List.length_reverse]); first | assumption | lia) | decide)) | (refine shl1_nn ?_ ?_; (first | assumption | (with_unfolding_all exact Nat.le_of_ble_eq_true rfl) | (apply Nat.le_trans; assumption; with_unfolding_all exact Nat.le_of_ble_eq_true rfl) | (apply Nat.lt_of_le_of_lt; assumption; with_unfolding_all exact Nat.le_of_ble_eq_true rfl) | ((try simp only [List.length_map, List.length_append, List.length_cons, List.length_nil, List.length_set, List.length_replicate, List.length_take, List.length_drop, List.length_reverse]); first | assumption | lia) | decide)) | refine b_enumerate (by assumption) ?_)
  let I2 : Nat → St → Prop := fun j σ => ∃ gs c, σ = ⟨[(Nm "rest", .own 0), (Nm "b", .pv (row ys)), (Nm "at", pn p), (Nm "w", pn k), (Nm "mask", pn (2 ^ k - 1)), (Nm "carry", pn c)], [some (gs.map pnat)]⟩ ∧ Dig (2 ^ k) gs ∧ gs.length = rs.length ∧ gs.take p = rs.take p ∧ gs.drop (p + j) = rs.drop (p + j) ∧ c ≤ 1 ∧ val (2 ^ k) gs + (2 ^ k) ^ (p + j) * c = val (2 ^ k) rs + (2 ^ k) ^ p * val (2 ^ k) (ys.take j)
  refine for_enum I2
    ⟨rs, 0, rfl, hrd, rfl, rfl, rfl, by lia, by simp [val]⟩ ?_ ?_
  · rintro j y hy _ ⟨gs, c, rfl, hgd, hgl, hglo, hghi, hcB, hv⟩ bs' _ _
    have hyB := hdy.get hy
    have hjl : j < ys.length := (List.getElem?_eq_some_iff.mp hy).1
    obtain ⟨x, hx⟩ : ∃ x, gs[p + j]? = some x := ⟨_, List.getElem?_eq_getElem (by lia)⟩
    have hxB := hgd.get hx
    repeat (with_reducible first | (refine x_name ?_; refine ⟨_, by with_unfolding_all rfl, ?_⟩) | refine e_bin ?_ | refine ⟨rfl, ?_⟩ | refine sto_l ?_ | refine ⟨_, rfl, ?_⟩ | refine e_sub ?_ | refine x_ix ?_ | refine add_nn ?_ | refine and_mask ?_ | refine ⟨_, _, _, _, by with_unfolding_all rfl, by (first | assumption | with_unfolding_all assumption), by (first | assumption | (with_unfolding_all exact Nat.le_of_ble_eq_true rfl) | (apply Nat.le_trans; assumption; with_unfolding_all exact Nat.le_of_ble_eq_true rfl) | (apply Nat.lt_of_le_of_lt; assumption; with_unfolding_all exact Nat.le_of_ble_eq_true rfl) | ((try simp only [List.length_map, List.length_append, List.length_cons, List.length_nil, List.length_set, List.length_replicate, List.length_take, List.length_drop, List.length_reverse]); first | assumption | lia) | decide), ?_⟩ | refine x_setitem ?_ | refine x_aug ?_ | refine b_nil ?_ | refine b_next ?_ | refine iadd_nn ?_ | refine ishr_nn ?_ | refine own_q ?_ | (refine set_p ?_; refine ⟨_, by with_unfolding_all rfl, by (first | assumption | (with_unfolding_all exact Nat.le_of_ble_eq_true rfl) | (apply Nat.le_trans; assumption; with_unfolding_all exact Nat.le_of_ble_eq_true rfl) | (apply Nat.lt_of_le_of_lt; assumption; with_unfolding_all exact Nat.le_of_ble_eq_true rfl) | ((try simp only [List.length_map, List.length_append, List.length_cons, List.length_nil, List.length_set, List.length_replicate, List.length_take, List.length_drop, List.length_reverse]); first | assumption | lia) | decide), by (first | assumption | (with_unfolding_all exact Nat.le_of_ble_eq_true rfl) | (apply Nat.le_trans; assumption; with_unfolding_all exact Nat.le_of_ble_eq_true rfl) | (apply Nat.lt_of_le_of_lt; assumption; with_unfolding_all exact Nat.le_of_ble_eq_true rfl) | ((try simp only [List.length_map, List.length_append, List.length_cons, List.length_nil, List.length_set, List.length_replicate, List.length_take, List.length_drop, List.length_reverse]); first | assumption | lia) | decide), ?_⟩) | refine ⟨⟨_, by with_unfolding_all rfl⟩, ?_⟩ | refine xa_name ?_ | refine as_cons ?_ | refine as_nil ?_)
    refine loop_next (next_of ⟨gs.set (p + j) ((c + (x + y)) % 2 ^ k), (c + (x + y)) / 2 ^ k, rfl, hgd.set _ (Nat.mod_lt _ (by lia)), List.length_set.trans hgl, by rw [take_set_le (Nat.le_add_right _ _)]; exact hglo, ?_, ?_, ?_⟩)
    · rw [drop_set_gt (show p + j < p + (j + 1) by lia)]
      have := congrArg (List.drop 1) hghi
      rw [List.drop_drop, List.drop_drop] at this
      exact this
    · exact Nat.le_of_lt_succ ((Nat.div_lt_iff_lt_mul (by lia)).mpr (by lia))
    · rw [show p + (j + 1) = p + j + 1 from rfl, set_step hx hv, val_take _ hy, Nat.mul_add, Nat.pow_add, Nat.mul_assoc, Nat.add_assoc]
  · rintro _ ⟨gs, c, rfl, hgd, hgl, hglo, hghi, hcB, hv⟩
    rw [List.take_length, hV] at hv
    obtain ⟨x, hx⟩ : ∃ x, gs[p + ys.length]? = some x := ⟨_, List.getElem?_eq_getElem (by lia)⟩
    have hxB := hgd.get hx
    repeat (with_reducible first | (refine x_name ?_; refine ⟨_, by with_unfolding_all rfl, ?_⟩) | refine l_cons ?_ | refine l_nil ?_ | refine e_bin ?_ | refine ⟨rfl, ?_⟩ | refine ⟨_, rfl, ?_⟩ | refine e_sub ?_ | refine e_call ?_ | refine x_ix ?_ | refine add_nn ?_ | refine and_mask ?_ | refine ⟨_, _, _, _, by with_unfolding_all rfl, by (first | assumption | with_unfolding_all assumption), by (first | assumption | (with_unfolding_all exact Nat.le_of_ble_eq_true rfl) | (apply Nat.le_trans; assumption; with_unfolding_all exact Nat.le_of_ble_eq_true rfl) | (apply Nat.lt_of_le_of_lt; assumption; with_unfolding_all exact Nat.le_of_ble_eq_true rfl) | ((try simp only [List.length_map, List.length_append, List.length_cons, List.length_nil, List.length_set, List.length_replicate, List.length_take, List.length_drop, List.length_reverse]); first | assumption | lia) | decide), ?_⟩ | refine ⟨_, _, _, by with_unfolding_all rfl, by (first | assumption | (with_unfolding_all exact Nat.le_of_ble_eq_true rfl) | (apply Nat.le_trans; assumption; with_unfolding_all exact Nat.le_of_ble_eq_true rfl) | (apply Nat.lt_of_le_of_lt; assumption; with_unfolding_all exact Nat.le_of_ble_eq_true rfl) | ((try simp only [List.length_map, List.length_append, List.length_cons, List.length_nil, List.length_set, List.length_replicate, List.length_take, List.length_drop, List.length_reverse]); first | assumption | lia) | decide), ?_⟩ | refine x_setitem ?_ | refine b_nil ?_ | refine b_next ?_ | refine then_next ?_ | refine k_bi ?_ | refine x_len ?_ | refine own_q ?_ | (refine set_p ?_; refine ⟨_, by with_unfolding_all rfl, by (first | assumption | (with_unfolding_all exact Nat.le_of_ble_eq_true rfl) | (apply Nat.le_trans; assumption; with_unfolding_all exact Nat.le_of_ble_eq_true rfl) | (apply Nat.lt_of_le_of_lt; assumption; with_unfolding_all exact Nat.le_of_ble_eq_true rfl) | ((try simp only [List.length_map, List.length_append, List.length_cons, List.length_nil, List.length_set, List.length_replicate, List.length_take, List.length_drop, List.length_reverse]); first | assumption | lia) | decide), by (first | assumption | (with_unfolding_all exact Nat.le_of_ble_eq_true rfl) | (apply Nat.le_trans; assumption; with_unfolding_all exact Nat.le_of_ble_eq_true rfl) | (apply Nat.lt_of_le_of_lt; assumption; with_unfolding_all exact Nat.le_of_ble_eq_true rfl) | ((try simp only [List.length_map, List.length_append, List.length_cons, List.length_nil, List.length_set, List.length_replicate, List.length_take, List.length_drop, List.length_reverse]); first | assumption | lia) | decide), ?_⟩) | refine ⟨⟨_, by with_unfolding_all rfl⟩, ?_⟩ | refine b_len (by assumption) ?_)
    refine fin_none1 rfl ⟨rfl, gs.set (p + ys.length) ((x + c) % 2 ^ k), (x + c) / 2 ^ k, rfl, hgd.set _ (Nat.mod_lt _ (by lia)), List.length_set.trans hgl, by rw [take_set_le (Nat.le_add_right _ _)]; exact hglo, ?_, ?_⟩
    · rw [drop_set_gt (Nat.lt_succ_self _)]
      have := congrArg (List.drop 1) hghi
      rw [List.drop_drop, List.drop_drop] at this
      exact this
    · have h1 := val_set (B := 2 ^ k) ((x + c) % 2 ^ k) hx
      have h2 := Nat.mod_add_div (x + c) (2 ^ k)
      have e3 : (2 ^ k) ^ (p + ys.length) * ((x + c) % 2 ^ k) + (2 ^ k) ^ (p + ys.length) * (2 ^ k * ((x + c) / 2 ^ k)) = (2 ^ k) ^ (p + ys.length) * x + (2 ^ k) ^ (p + ys.length) * c := by rw [← Nat.mul_add, ← Nat.mul_add, h2]
      rw [Nat.pow_succ, Nat.mul_assoc]
      lia
end
end CR
namespace CR
theorem val_split (B : Nat) {xs : List Nat} {a : Nat} (h : a ≤ xs.length) : val B xs = val B (xs.take a) + B ^ a * val B (xs.drop a) := by
  have := val_append B (xs.take a) (xs.drop a)
  rwa [List.take_append_drop, List.length_take, Nat.min_eq_left h] at this
theorem knuth {B V V2 Lv Lr T R R1 l ret s : Nat} (hB : 2 ≤ B) (hs : 2 ≤ s) (hV : V = Lv + B ^ (s - 2) * V2) (hLv : Lv < B ^ (s - 2)) (hR : R = Lr + B ^ (s - 2) * T) (hLr : Lr < B ^ (s - 2)) (hV2 : B ≤ V2) (hRV : R < B * V)
    (hl : l = min (T / V2) (B - 1)) (hret : ret ≤ 1) (he : R1 + l * V = R + B ^ (s + 1) * ret) (hR1 : R1 < B ^ (s + 1)) :
    (ret = 0 → R1 = R % V ∧ l = R / V) ∧ (ret = 1 → 1 ≤ l ∧ l - 1 = R / V ∧ R1 + V = R % V + B ^ (s + 1)) := by
  have hp : 0 < B ^ (s - 2) := Nat.pow_pos (by lia)
  have hV0 : 0 < V := by
    have := Nat.mul_pos hp (show 0 < V2 by lia)
    lia
  have hqB : R / V ≤ B - 1 := by
    have : R / V < B := (Nat.div_lt_iff_lt_mul hV0).mpr hRV
    lia
  have hqR : R / V * V ≤ R := Nat.div_mul_le_self R V
  have hql : R / V ≤ l := by
    rw [hl]
    refine Nat.le_min.mpr ⟨(Nat.le_div_iff_mul_le (by lia)).mpr (Nat.le_of_lt_succ ?_), hqB⟩
    refine Nat.lt_of_mul_lt_mul_left (a := B ^ (s - 2)) ?_
    have h1 : B ^ (s - 2) * (R / V * V2) ≤ R / V * V := by
      rw [Nat.mul_left_comm]
      exact Nat.mul_le_mul_left _ (by lia)
    rw [Nat.mul_succ]
    lia
  have hlV : l * V < R + V := by
    have hlT : l * V2 ≤ T := by
      rw [hl]
      exact Nat.le_trans (Nat.mul_le_mul_right _ (Nat.min_le_left _ _)) (Nat.div_mul_le_self _ _)
    have hlB : l < B := by
      have : l ≤ B - 1 := hl ▸ Nat.min_le_right _ _
      lia
    have h1 : l * Lv < B * B ^ (s - 2) := Nat.lt_of_le_of_lt (Nat.mul_le_mul_right Lv (Nat.le_of_lt hlB)) (Nat.mul_lt_mul_of_pos_left hLv (by lia))
    have h2 : B * B ^ (s - 2) ≤ B ^ (s - 2) * V2 := by rw [Nat.mul_comm]; exact Nat.mul_le_mul_left _ hV2
    have h3 : B ^ (s - 2) * (l * V2) ≤ B ^ (s - 2) * T := Nat.mul_le_mul_left _ hlT
    have h4 : l * V = l * Lv + B ^ (s - 2) * (l * V2) := by rw [hV, Nat.mul_add, Nat.mul_left_comm]
    lia
  have hlq : l ≤ R / V + 1 := by
    refine Nat.le_of_lt_succ (Nat.lt_of_mul_lt_mul_right (a := V) ?_)
    have h1 := Nat.lt_div_mul_add (a := R) hV0
    have : (R / V + 1).succ * V = R / V * V + V + V := by rw [Nat.succ_mul, Nat.add_mul, Nat.one_mul]
    lia
  have hmod : R % V + R / V * V = R := by rw [Nat.mul_comm]; exact Nat.mod_add_div R V
  constructor
  · intro h
    subst h
    rw [Nat.mul_zero, Nat.add_zero] at he
    have : l ≤ R / V := (Nat.le_div_iff_mul_le hV0).mpr (by lia)
    have e : l = R / V := by lia
    rw [e] at he
    exact ⟨by lia, e⟩
  · intro h
    subst h
    rw [Nat.mul_one] at he
    have h1 : R / V < l := by
      refine Nat.lt_of_mul_lt_mul_right (a := V) ?_
      lia
    have e : l = R / V + 1 := by lia
    generalize R / V = q at *
    generalize R % V = r at *
    clear hl hqB hql hlq h1 hlV
    subst e
    rw [Nat.add_mul, Nat.one_mul] at he
    exact ⟨by lia, by lia, by lia⟩
/-- the top of a window as three digits -/
theorem top_three {B : Nat} {gs : List Nat} {p s t0 t1 t2 : Nat} (hs : 2 ≤ s) (e0 : gs[p + s - 2]? = some t0) (e1 : gs[p + s - 1]? = some t1) (e2 : gs[p + s]? = some t2) (hz : val B (gs.drop (p + s + 1)) = 0) :
    val B (gs.drop p) = val B ((gs.drop p).take (s - 2)) + B ^ (s - 2) * ((t2 * B + t1) * B + t0) := by
  have hl := (List.getElem?_eq_some_iff.mp e2).1
  rw [val_split B (xs := gs.drop p) (a := s - 2) (by rw [List.length_drop]; lia), List.drop_drop, show p + (s - 2) = p + s - 2 by lia, val_drop B e0, show p + s - 2 + 1 = p + s - 1 by lia, val_drop B e1, show p + s - 1 + 1 = p + s by lia, val_drop B e2, hz]
  congr 2
  rw [Nat.mul_zero, Nat.add_zero, Nat.mul_add, Nat.add_mul, Nat.mul_comm t2, Nat.mul_comm t1, Nat.mul_comm (B * t2)]
  lia
theorem top_two {B : Nat} {ys : List Nat} {v1 v2 : Nat} (hs : 2 ≤ ys.length) (e1 : ys[ys.length - 1]? = some v1) (e2 : ys[ys.length - 2]? = some v2) : val B ys = val B (ys.take (ys.length - 2)) + B ^ (ys.length - 2) * (v1 * B + v2) := by
  rw [val_split B (xs := ys) (a := ys.length - 2) (by lia), val_drop B e2, show ys.length - 2 + 1 = ys.length - 1 by lia, val_drop B e1, show ys.length - 1 + 1 = ys.length by lia, List.drop_length]
  congr 2
  simp only [val, Nat.mul_zero, Nat.add_zero]
  rw [Nat.mul_comm v1]; lia
theorem slice_three {gs : List Nat} {a t0 t1 t2 : Nat} (e0 : gs[a]? = some t0) (e1 : gs[a + 1]? = some t1) (e2 : gs[a + 2]? = some t2) : (gs.drop a).take 3 = [t0, t1, t2] := by
  obtain ⟨h0, rfl⟩ := List.getElem?_eq_some_iff.mp e0
  obtain ⟨h1, rfl⟩ := List.getElem?_eq_some_iff.mp e1
  obtain ⟨h2, rfl⟩ := List.getElem?_eq_some_iff.mp e2
  rw [List.drop_eq_getElem_cons h0, List.drop_eq_getElem_cons h1, List.drop_eq_getElem_cons h2]
  rfl
/-- the window of a Took -/
theorem took_window {B p V l ret s : Nat} {rs rs' : List Nat} (h : Took B p V l rs rs' ret s) (hp : p ≤ rs.length) (hB : 0 < B) : val B (rs'.drop p) + l * V = val B (rs.drop p) + B ^ (s + 1) * ret := by
  have h1 := h.eq
  rw [val_split B (xs := rs') (a := p) (by rw [h.len]; exact hp), val_split B (xs := rs) (a := p) hp, h.low, Nat.add_assoc p, Nat.pow_add, Nat.mul_assoc, Nat.add_assoc, Nat.add_assoc] at h1
  have h2 := Nat.add_left_cancel h1
  rw [← Nat.mul_add, ← Nat.mul_add] at h2
  exact Nat.eq_of_mul_eq_mul_left (Nat.pow_pos hB) h2
theorem back_window {B p V c s : Nat} {rs rs' : List Nat} (h : val B rs' + B ^ (p + s + 1) * c = val B rs + B ^ p * V) (hl : rs'.length = rs.length) (hlow : rs'.take p = rs.take p) (hp : p ≤ rs.length) (hB : 0 < B) : val B (rs'.drop p) + B ^ (s + 1) * c = val B (rs.drop p) + V := by
  have h1 := h
  rw [val_split B (xs := rs') (a := p) (by rw [hl]; exact hp), val_split B (xs := rs) (a := p) hp, hlow, Nat.add_assoc p, Nat.pow_add, Nat.mul_assoc, Nat.add_assoc, Nat.add_assoc] at h1
  have h2 := Nat.add_left_cancel h1
  rw [← Nat.mul_add, ← Nat.mul_add] at h2
  exact Nat.eq_of_mul_eq_mul_left (Nat.pow_pos hB) h2
theorem window_lt {B p n : Nat} {gs : List Nat} (hB : 0 < B) (hd : Dig B gs) (hl : p + n ≤ gs.length) (hz : val B (gs.drop (p + n)) = 0) : val B (gs.drop p) < B ^ n := by
  rw [val_split B (xs := gs.drop p) (a := n) (by rw [List.length_drop]; lia), List.drop_drop, hz, Nat.mul_zero, Nat.add_zero]
  have := val_lt hB ((hd.drop p).take n)
  rwa [List.length_take, List.length_drop, Nat.min_eq_left (by lia)] at this
theorem high_zero {B p n : Nat} {gs : List Nat} (hB : 0 < B) (hl : p + n ≤ gs.length) (h : val B (gs.drop p) < B ^ n) : val B (gs.drop (p + n)) = 0 := by
  rw [val_split B (xs := gs.drop p) (a := n) (by rw [List.length_drop]; lia), List.drop_drop] at h
  apply Decidable.byContradiction
  intro c
  have := Nat.mul_le_mul_left (B ^ n) (show 1 ≤ val B (gs.drop (p + n)) by lia)
  lia
theorem norm_facts {k m n x s b : Nat} (hk : 1 ≤ k) (hx : (limbs (2 ^ k) n)[(limbs (2 ^ k) n).length - 1]? = some x) (hn : 0 < n) (hb : x < 2 ^ b) (hs : b + s = k) (hmn : n ≤ m) :
    (limbs (2 ^ k) (n * 2 ^ s)).length = (limbs (2 ^ k) n).length ∧ (limbs (2 ^ k) (m * 2 ^ s)).length ≤ (limbs (2 ^ k) m).length + 1 ∧ (limbs (2 ^ k) n).length ≤ (limbs (2 ^ k) m).length ∧
    val (2 ^ k) ((limbs (2 ^ k) (m * 2 ^ s) ++ List.replicate ((limbs (2 ^ k) m).length + 1 - (limbs (2 ^ k) (m * 2 ^ s)).length) 0).drop ((limbs (2 ^ k) m).length + 1 - (limbs (2 ^ k) n).length)) < n * 2 ^ s := by
  have hB := two_le_pow hk
  have hB0 : 0 < 2 ^ k := by lia
  have hs0 := Nat.two_pow_pos s
  have hsB : 2 ^ s ≤ 2 ^ k := Nat.pow_le_pow_right (by decide) (by lia)
  obtain ⟨ln, hln⟩ : ∃ ln, (limbs (2 ^ k) n).length = ln + 1 := ⟨(limbs (2 ^ k) n).length - 1, by have := List.length_pos_iff.mpr (limbs_ne hB (n := n) (by lia)); lia⟩
  have hge : (2 ^ k) ^ ln ≤ n := by have := limbs_ge hB (n := n) (by lia); rwa [hln, Nat.add_sub_cancel] at this
  have hnx : n < (2 ^ k) ^ ln * (x + 1) := by
    rw [hln, Nat.add_sub_cancel] at hx
    have h1 := val_split (2 ^ k) (xs := limbs (2 ^ k) n) (a := ln) (by lia)
    rw [val_limbs hB, val_drop _ hx, show ln + 1 = (limbs (2 ^ k) n).length from hln.symm, List.drop_length] at h1
    have h2 := val_lt hB0 ((limbs_dig hB n).take ln)
    rw [List.length_take, Nat.min_eq_left (by lia)] at h2
    simp only [val, Nat.mul_zero, Nat.add_zero] at h1
    rw [Nat.mul_add, Nat.mul_one]; lia
  have hV1 : n * 2 ^ s < (2 ^ k) ^ (ln + 1) := by
    have h1 : n * 2 ^ s < (2 ^ k) ^ ln * (x + 1) * 2 ^ s := Nat.mul_lt_mul_of_pos_right hnx hs0
    have h2 : (x + 1) * 2 ^ s ≤ 2 ^ k := by
      rw [← hs, Nat.pow_add]
      exact Nat.mul_le_mul_right _ hb
    rw [Nat.mul_assoc] at h1
    rw [Nat.pow_succ]
    exact Nat.lt_of_lt_of_le h1 (Nat.mul_le_mul_left _ h2)
  have hV2 : (2 ^ k) ^ ln * 2 ^ s ≤ n * 2 ^ s := Nat.mul_le_mul_right _ hge
  have hlm : (limbs (2 ^ k) n).length ≤ (limbs (2 ^ k) m).length := by
    refine Decidable.byContradiction fun h => ?_
    have := limbs_lt_len hB (m := m) (n := n) (by lia)
    lia
  have hmL := limbs_lt (n := m) hB
  have hR : m * 2 ^ s < (2 ^ k) ^ (limbs (2 ^ k) m).length * 2 ^ s := Nat.mul_lt_mul_of_pos_right hmL hs0
  have hRl : (limbs (2 ^ k) (m * 2 ^ s)).length ≤ (limbs (2 ^ k) m).length + 1 := limbs_len hB _ _ (by
    rw [Nat.pow_succ]
    exact Nat.lt_of_lt_of_le hR (Nat.mul_le_mul_left _ hsB))
  refine ⟨?_, hRl, hlm, ?_⟩
  · have h1 := limbs_len hB _ _ hV1
    have h2 : ln < (limbs (2 ^ k) (n * 2 ^ s)).length := by
      refine Decidable.byContradiction fun h => ?_
      have h3 := limbs_lt (n := n * 2 ^ s) hB
      have h4 : (2 ^ k) ^ (limbs (2 ^ k) (n * 2 ^ s)).length ≤ (2 ^ k) ^ ln := Nat.pow_le_pow_right hB0 (by lia)
      have h5 : (2 ^ k) ^ ln ≤ (2 ^ k) ^ ln * 2 ^ s := Nat.le_mul_of_pos_right _ hs0
      lia
    lia
  · rw [hln]
    rw [hln] at hlm
    generalize hzs : limbs (2 ^ k) (m * 2 ^ s) ++ List.replicate ((limbs (2 ^ k) m).length + 1 - (limbs (2 ^ k) (m * 2 ^ s)).length) 0 = zs
    have hzl : zs.length = (limbs (2 ^ k) m).length + 1 := by rw [← hzs]; simp; lia
    have hzv : val (2 ^ k) zs = m * 2 ^ s := by rw [← hzs, val_append, val_zeros, Nat.mul_zero, Nat.add_zero, val_limbs hB]
    obtain ⟨p, hp⟩ : ∃ p, (limbs (2 ^ k) m).length = p + ln := ⟨(limbs (2 ^ k) m).length - ln, by lia⟩
    rw [show (limbs (2 ^ k) m).length + 1 - (ln + 1) = p by lia]
    have h1 := val_split (2 ^ k) (xs := zs) (a := p) (by lia)
    rw [hzv] at h1
    rw [hp, Nat.pow_add, Nat.mul_assoc] at hR
    refine Nat.lt_of_lt_of_le (Nat.lt_of_mul_lt_mul_left (a := (2 ^ k) ^ p) ?_) hV2
    lia
end CR
namespace CR
open PySem PySem.W PyProof.Rows
section
variable {prog : Program} {w : World} {K : Frag} {ad : Nat → Addr}
theorem divide_rows_ok (P : Prg K ad) {k V : Nat} {rs ys : List Nat} (hk : 1 ≤ k ∧ k ≤ 20) (hys : ys = limbs (2 ^ k) V) (hn : 2 ≤ ys.length ∧ ys.length ≤ 1000) (hr : ys.length ≤ rs.length ∧ rs.length ≤ 2000) (hrd : Dig (2 ^ k) rs) (hi : val (2 ^ k) (rs.drop (rs.length - ys.length)) < V) :
    FCall prog w K 2 (ad 27) [rs.map pnat] [row ys, .int k] (fun r o => ∃ rs' qs, r = .fresh (qs.map pnat) ∧ o = [rs'.map pnat] ∧ Dig (2 ^ k) rs' ∧ Dig (2 ^ k) qs ∧ rs'.length = rs.length ∧ qs.length ≤ rs.length ∧ val (2 ^ k) rs' = val (2 ^ k) rs % V ∧ val (2 ^ k) qs = val (2 ^ k) rs / V) := by
  have hB := two_le_pow hk.1
  have hB0 : 0 < 2 ^ k := by lia
  have hB2 : 2 ^ k ≤ 2 ^ 20 := Nat.pow_le_pow_right (by decide) hk.2
  have hdy : Dig (2 ^ k) ys := hys ▸ limbs_dig hB V
  have hV : val (2 ^ k) ys = V := hys ▸ val_limbs hB V
  have hVlt : V < (2 ^ k) ^ ys.length := by rw [← hV]; exact val_lt hB0 hdy
  obtain ⟨v1, hv1⟩ : ∃ v, ys[ys.length - 1]? = some v := ⟨_, List.getElem?_eq_getElem (by lia)⟩
  obtain ⟨v2, hv2⟩ : ∃ v, ys[ys.length - 2]? = some v := ⟨_, List.getElem?_eq_getElem (by lia)⟩
  have hv10 : 0 < v1 ∧ v1 < 2 ^ k := ⟨Nat.pos_of_ne_zero (limbs_last hB V v1 (by rw [List.getLast?_eq_getElem?, ← hys]; exact hv1)), hdy.get hv1⟩
  have hv2B := hdy.get hv2
  have hVt := top_two (B := 2 ^ k) hn.1 hv1 hv2
  rw [hV] at hVt
  have hLv : val (2 ^ k) (ys.take (ys.length - 2)) < (2 ^ k) ^ (ys.length - 2) := by
    have := val_lt hB0 (hdy.take (ys.length - 2))
    rwa [List.length_take, Nat.min_eq_left (by lia)] at this
  have hV2B : 2 ^ k ≤ v1 * 2 ^ k + v2 := Nat.le_trans (Nat.le_mul_of_pos_left _ hv10.1) (Nat.le_add_right _ _)
  refine enter (P.fn 27 (by decide)) [Nm "rest", Nm "b", Nm "w"] (by (intro nm q doc pm an cdv ct vals h; obtain ⟨a, b, c, e⟩ := len3 h; subst e; with_unfolding_all rfl)) (fun _ => rfl) (by decide) rfl [(Nm "rest", .own 0), (Nm "b", .pv (row ys)), (Nm "w", pn k)] [some (rs.map pnat)] rfl rfl ?_
  intro bs L q cd hl hc
  refine let C : Cx := _; let Z : RF → St → Prop := _; (show WB C _ _ Z from ?_)
  refine b_next ?_
  repeat (with_reducible first | (refine x_name ?_; refine ⟨_, by with_unfolding_all rfl, ?_⟩) | refine e_nat ?_ | refine l_cons ?_ | refine l_nil ?_ | refine e_bin ?_ | refine ⟨rfl, ?_⟩ | refine sto_l ?_ | refine e_call ?_ | refine ⟨_, _, _, by with_unfolding_all rfl, by (first | assumption | (with_unfolding_all exact Nat.le_of_ble_eq_true rfl) | (apply Nat.le_trans; assumption; with_unfolding_all exact Nat.le_of_ble_eq_true rfl) | (apply Nat.lt_of_le_of_lt; assumption; with_unfolding_all exact Nat.le_of_ble_eq_true rfl) | ((try simp only [List.length_map, List.length_append, List.length_cons, List.length_nil, List.length_set, List.length_replicate, List.length_take, List.length_drop, List.length_reverse]); first | assumption | lia) | decide), ?_⟩ | refine x_assign ?_ | refine b_next ?_ | refine k_bi ?_ | refine x_len ?_ | refine e_list ?_ | refine ⟨[_], by with_unfolding_all rfl, by (first | assumption | (with_unfolding_all exact Nat.le_of_ble_eq_true rfl) | (apply Nat.le_trans; assumption; with_unfolding_all exact Nat.le_of_ble_eq_true rfl) | (apply Nat.lt_of_le_of_lt; assumption; with_unfolding_all exact Nat.le_of_ble_eq_true rfl) | ((try simp only [List.length_map, List.length_append, List.length_cons, List.length_nil, List.length_set, List.length_replicate, List.length_take, List.length_drop, List.length_reverse]); first | assumption | lia) | decide), ?_⟩ | refine b_len (by assumption) ?_)
  refine .inl ?_
  repeat (with_reducible first | (refine x_name ?_; refine ⟨_, by with_unfolding_all rfl, ?_⟩) | refine l_cons ?_ | refine l_nil ?_ | refine e_bin ?_ | refine e_call ?_ | refine ⟨_, _, _, by with_unfolding_all rfl, by (first | assumption | (with_unfolding_all exact Nat.le_of_ble_eq_true rfl) | (apply Nat.le_trans; assumption; with_unfolding_all exact Nat.le_of_ble_eq_true rfl) | (apply Nat.lt_of_le_of_lt; assumption; with_unfolding_all exact Nat.le_of_ble_eq_true rfl) | ((try simp only [List.length_map, List.length_append, List.length_cons, List.length_nil, List.length_set, List.length_replicate, List.length_take, List.length_drop, List.length_reverse]); first | assumption | lia) | decide), ?_⟩ | refine k_bi ?_ | refine x_len ?_ | (refine sub_nn ?_ ?_; (first | assumption | (with_unfolding_all exact Nat.le_of_ble_eq_true rfl) | (apply Nat.le_trans; assumption; with_unfolding_all exact Nat.le_of_ble_eq_true rfl) | (apply Nat.lt_of_le_of_lt; assumption; with_unfolding_all exact Nat.le_of_ble_eq_true rfl) | ((try simp only [List.length_map, List.length_append, List.length_cons, List.length_nil, List.length_set, List.length_replicate, List.length_take, List.length_drop, List.length_reverse]); first | assumption | lia) | decide)) | (refine mul_zero ?_ ?_; (first | assumption | (with_unfolding_all exact Nat.le_of_ble_eq_true rfl) | (apply Nat.le_trans; assumption; with_unfolding_all exact Nat.le_of_ble_eq_true rfl) | (apply Nat.lt_of_le_of_lt; assumption; with_unfolding_all exact Nat.le_of_ble_eq_true rfl) | ((try simp only [List.length_map, List.length_append, List.length_cons, List.length_nil, List.length_set, List.length_replicate, List.length_take, List.length_drop, List.length_reverse]); first | assumption | lia) | decide)) | refine b_len (by assumption) ?_)
  refine .inr ?_
  repeat (with_reducible first | (refine x_name ?_; refine ⟨_, by with_unfolding_all rfl, ?_⟩) | refine e_nat ?_ | refine l_cons ?_ | refine l_nil ?_ | refine e_bin ?_ | refine ⟨rfl, ?_⟩ | refine e_call ?_ | refine ⟨_, _, _, by with_unfolding_all rfl, by (first | assumption | (with_unfolding_all exact Nat.le_of_ble_eq_true rfl) | (apply Nat.le_trans; assumption; with_unfolding_all exact Nat.le_of_ble_eq_true rfl) | (apply Nat.lt_of_le_of_lt; assumption; with_unfolding_all exact Nat.le_of_ble_eq_true rfl) | ((try simp only [List.length_map, List.length_append, List.length_cons, List.length_nil, List.length_set, List.length_replicate, List.length_take, List.length_drop, List.length_reverse]); first | assumption | lia) | decide), ?_⟩ | refine b_for ?_ | refine s_for ?_ | refine x_rangedown ?_ | refine k_bi ?_ | refine x_len ?_ | (refine sub_nn ?_ ?_; (first | assumption | (with_unfolding_all exact Nat.le_of_ble_eq_true rfl) | (apply Nat.le_trans; assumption; with_unfolding_all exact Nat.le_of_ble_eq_true rfl) | (apply Nat.lt_of_le_of_lt; assumption; with_unfolding_all exact Nat.le_of_ble_eq_true rfl) | ((try simp only [List.length_map, List.length_append, List.length_cons, List.length_nil, List.length_set, List.length_replicate, List.length_take, List.length_drop, List.length_reverse]); first | assumption | lia) | decide)) | refine sub_ii ?_ | refine e_neg1 ?_ | refine b_len (by assumption) ?_ | refine b_range (by assumption) ?_)
  refine ⟨_, rs.length - ys.length, rfl, ⟨by lia, by lia⟩, ?_⟩
  let I1 : Nat → St → Prop := fun j σ => ∃ gs qs, σ = ⟨[(Nm "rest", .own 0), (Nm "b", .pv (row ys)), (Nm "w", pn k), (Nm "size", pn ys.length), (Nm "quotient", .own 1)], [some (gs.map pnat), some (qs.map pnat)]⟩ ∧ Dig (2 ^ k) gs ∧ gs.length = rs.length ∧ val (2 ^ k) (gs.drop j) < V ∧ Dig (2 ^ k) qs ∧ qs.length = rs.length - ys.length ∧ qs.take j = List.replicate j 0 ∧ val (2 ^ k) gs + V * val (2 ^ k) qs = val (2 ^ k) rs
  refine for_down I1
    ⟨rs, _, rfl, hrd, rfl, hi, Dig.zeros hB0 _, List.length_replicate, by rw [List.take_of_length_le (by simp)], by rw [val_zeros]; simp⟩ ?_ ?_
  · rintro p hp _ ⟨gs, qs, rfl, hgd, hgl, hlt, hqd, hql, hqz, hv⟩ bs' hbl _
    obtain ⟨t0, e0⟩ : ∃ v, gs[p + ys.length - 2]? = some v := ⟨_, List.getElem?_eq_getElem (by lia)⟩
    obtain ⟨t1, e1⟩ : ∃ v, gs[p + ys.length - 1]? = some v := ⟨_, List.getElem?_eq_getElem (by lia)⟩
    obtain ⟨t2, e2⟩ : ∃ v, gs[p + ys.length]? = some v := ⟨_, List.getElem?_eq_getElem (by lia)⟩
    obtain ⟨x, hx⟩ : ∃ v, gs[p]? = some v := ⟨_, List.getElem?_eq_getElem (by lia)⟩
    have hxB := hgd.get hx
    have hz : val (2 ^ k) (gs.drop (p + ys.length + 1)) = 0 := by
      have := high_zero (p := p + 1) (n := ys.length) hB0 (by lia) (Nat.lt_trans hlt hVlt)
      rwa [show p + 1 + ys.length = p + ys.length + 1 by lia] at this
    have hR := top_three (B := 2 ^ k) hn.1 e0 e1 e2 hz
    have hLr : val (2 ^ k) ((gs.drop p).take (ys.length - 2)) < (2 ^ k) ^ (ys.length - 2) := by
      have := val_lt hB0 ((hgd.drop p).take (ys.length - 2))
      rwa [List.length_take, List.length_drop, Nat.min_eq_left (by lia)] at this
    have hRV : val (2 ^ k) (gs.drop p) < 2 ^ k * V := by
      rw [val_drop _ hx]
      have := Nat.mul_le_mul_left (2 ^ k) hlt
      rw [Nat.mul_succ] at this
      lia
    have hs3 : (gs.drop (p + ys.length - 2)).take (p + ys.length + 1 - (p + ys.length - 2)) = [t0, t1, t2] := by
      rw [show p + ys.length + 1 - (p + ys.length - 2) = 3 by lia]
      exact slice_three e0 (by rw [show p + ys.length - 2 + 1 = p + ys.length - 1 by lia]; exact e1) (by rw [show p + ys.length - 2 + 2 = p + ys.length by lia]; exact e2)
    obtain ⟨l, hlim⟩ : ∃ l, l = min (((t2 * 2 ^ k + t1) * 2 ^ k + t0) / (v1 * 2 ^ k + v2)) (2 ^ k - 1) := ⟨_, rfl⟩
    have hlB : l < 2 ^ k := by
      have : l ≤ 2 ^ k - 1 := hlim ▸ Nat.min_le_right _ _
      lia
    have hqp : qs[p]? = some 0 := by
      have : (qs.take (p + 1))[p]? = some 0 := by rw [hqz, List.getElem?_replicate, if_pos (Nat.lt_succ_self p)]
      rwa [List.getElem?_take, if_pos (Nat.lt_succ_self p)] at this
    have hqp' : ∀ v, (qs.set p v).take p = List.replicate p 0 := fun v => by
      rw [take_set_le (Nat.le_refl _)]
      have := congrArg (List.take p) hqz
      rw [List.take_take, List.take_replicate, Nat.min_eq_left (Nat.le_succ p)] at this
      exact this
    have hwin : val (2 ^ k) gs = val (2 ^ k) (gs.take p) + (2 ^ k) ^ p * val (2 ^ k) (gs.drop p) := val_split _ (by lia)
    have hqd' : val (2 ^ k) (gs.drop p) / V < 2 ^ k := (Nat.div_lt_iff_lt_mul (by lia)).mpr hRV
    -- what a turn leaves
    have turn : ∀ hs : List Nat, hs.length = gs.length → hs.take p = gs.take p → val (2 ^ k) (hs.drop p) = val (2 ^ k) (gs.drop p) % V → val (2 ^ k) (hs.drop p) < V ∧ val (2 ^ k) hs + V * val (2 ^ k) (qs.set p (val (2 ^ k) (gs.drop p) / V)) = val (2 ^ k) rs := fun hs h1 h2 h3 => by
      refine ⟨by rw [h3]; exact Nat.mod_lt _ (by lia), ?_⟩
      have h4 := val_set (B := 2 ^ k) (val (2 ^ k) (gs.drop p) / V) hqp
      rw [Nat.mul_zero, Nat.add_zero] at h4
      rw [h4, val_split (2 ^ k) (xs := hs) (a := p) (by lia), h2, h3, ← hv, hwin]
      have h5 := Nat.mod_add_div (val (2 ^ k) (gs.drop p)) V
      have h6 : (2 ^ k) ^ p * val (2 ^ k) (gs.drop p) = (2 ^ k) ^ p * (val (2 ^ k) (gs.drop p) % V) + V * ((2 ^ k) ^ p * (val (2 ^ k) (gs.drop p) / V)) := by
        conv => lhs; rw [← h5]
        rw [Nat.mul_add, Nat.mul_left_comm]
      rw [h6, Nat.mul_add]; lia
    repeat (with_reducible first | (refine x_name ?_; refine ⟨_, by with_unfolding_all rfl, ?_⟩) | refine e_nat ?_ | refine l_cons ?_ | refine e_bin ?_ | refine sto_l ?_ | refine ⟨_, rfl, ?_⟩ | refine e_slice ?_ | refine e_call ?_ | refine add_nn ?_ | refine ⟨_, _, _, by with_unfolding_all rfl, by (first | assumption | (with_unfolding_all exact Nat.le_of_ble_eq_true rfl) | (apply Nat.le_trans; assumption; with_unfolding_all exact Nat.le_of_ble_eq_true rfl) | (apply Nat.lt_of_le_of_lt; assumption; with_unfolding_all exact Nat.le_of_ble_eq_true rfl) | ((try simp only [List.length_map, List.length_append, List.length_cons, List.length_nil, List.length_set, List.length_replicate, List.length_take, List.length_drop, List.length_reverse]); first | assumption | lia) | decide), ?_⟩ | refine x_assign ?_ | refine b_next ?_ | refine k_ref (Prg.keep (by assumption) (by decide)) ?_ | (refine sub_nn ?_ ?_; (first | assumption | (with_unfolding_all exact Nat.le_of_ble_eq_true rfl) | (apply Nat.le_trans; assumption; with_unfolding_all exact Nat.le_of_ble_eq_true rfl) | (apply Nat.lt_of_le_of_lt; assumption; with_unfolding_all exact Nat.le_of_ble_eq_true rfl) | ((try simp only [List.length_map, List.length_append, List.length_cons, List.length_nil, List.length_set, List.length_replicate, List.length_take, List.length_drop, List.length_reverse]); first | assumption | lia) | decide)) | refine x_mid ?_ | refine o_none ?_ | refine o_some ?_ | refine xa_name ?_ | refine ⟨by (first | assumption | (with_unfolding_all exact Nat.le_of_ble_eq_true rfl) | (apply Nat.le_trans; assumption; with_unfolding_all exact Nat.le_of_ble_eq_true rfl) | (apply Nat.lt_of_le_of_lt; assumption; with_unfolding_all exact Nat.le_of_ble_eq_true rfl) | ((try simp only [List.length_map, List.length_append, List.length_cons, List.length_nil, List.length_set, List.length_replicate, List.length_take, List.length_drop, List.length_reverse]); first | assumption | lia) | decide), ?_⟩ | (refine e_glob (g_guessed_limb (by assumption)) ?_))
    refine .inl ?_
    rw [hs3]
    repeat (with_reducible first | (refine x_name ?_; refine ⟨_, by with_unfolding_all rfl, ?_⟩) | refine e_nat ?_ | refine l_cons ?_ | refine l_nil ?_ | refine e_bin ?_ | refine e_sub ?_ | refine x_ix ?_ | refine ⟨_, _, _, _, by with_unfolding_all rfl, by (first | assumption | with_unfolding_all assumption), by (first | assumption | (with_unfolding_all exact Nat.le_of_ble_eq_true rfl) | (apply Nat.le_trans; assumption; with_unfolding_all exact Nat.le_of_ble_eq_true rfl) | (apply Nat.lt_of_le_of_lt; assumption; with_unfolding_all exact Nat.le_of_ble_eq_true rfl) | ((try simp only [List.length_map, List.length_append, List.length_cons, List.length_nil, List.length_set, List.length_replicate, List.length_take, List.length_drop, List.length_reverse]); first | assumption | lia) | decide), ?_⟩ | (refine sub_nn ?_ ?_; (first | assumption | (with_unfolding_all exact Nat.le_of_ble_eq_true rfl) | (apply Nat.le_trans; assumption; with_unfolding_all exact Nat.le_of_ble_eq_true rfl) | (apply Nat.lt_of_le_of_lt; assumption; with_unfolding_all exact Nat.le_of_ble_eq_true rfl) | ((try simp only [List.length_map, List.length_append, List.length_cons, List.length_nil, List.length_set, List.length_replicate, List.length_take, List.length_drop, List.length_reverse]); first | assumption | lia) | decide)))
    refine call_v (guessed_ok P hk (hgd.get e0) (hgd.get e1) (hgd.get e2) hv10 hv2B) ?_
    rw [← hlim]
    repeat (with_reducible first | (refine x_name ?_; refine ⟨_, by with_unfolding_all rfl, ?_⟩) | refine l_cons ?_ | refine l_nil ?_ | refine ⟨rfl, ?_⟩ | refine t_cmp ?_ | refine e_call ?_ | refine s_if ?_ | refine b_if ?_ | refine k_ref (Prg.keep (by assumption) (by decide)) ?_ | (refine e_glob (g_take_away (by assumption)) ?_))
    refine call_lent rfl rfl (take_away_ok P (V := V) hk hys hn.2 (by lia) hgd (by lia) hlB) (Nat.le_of_ble_eq_true rfl) ?_
    rintro _ _ ⟨g1, ret, rfl, ho, tk⟩
    cases ho
    have hw1 := took_window tk (by lia) hB0
    have hz1 : val (2 ^ k) (g1.drop (p + (ys.length + 1))) = 0 := by rw [← Nat.add_assoc, tk.high]; exact hz
    have hR1 := window_lt (n := ys.length + 1) hB0 tk.dig (by rw [tk.len]; lia) hz1
    have K0 := knuth hB hn.1 hVt hLv hR hLr hV2B hRV hlim tk.le hw1 hR1
    refine lift_v ?_
    have hret : ret = 0 ∨ ret = 1 := by have := tk.le; lia
    rcases hret with rfl | rfl
    · obtain ⟨k1, k2⟩ := K0.1 rfl
      obtain ⟨n1, n2⟩ := turn g1 tk.len tk.low k1
      repeat (with_reducible first | (refine x_name ?_; refine ⟨_, by with_unfolding_all rfl, ?_⟩) | refine e_nat ?_ | refine ⟨rfl, ?_⟩ | refine ⟨_, rfl, ?_⟩ | refine x_setitem ?_ | refine b_nil ?_ | refine b_next ?_ | refine then_next ?_ | (refine ite_f ?_ ?_; (first | assumption | (with_unfolding_all exact Nat.le_of_ble_eq_true rfl) | (apply Nat.le_trans; assumption; with_unfolding_all exact Nat.le_of_ble_eq_true rfl) | (apply Nat.lt_of_le_of_lt; assumption; with_unfolding_all exact Nat.le_of_ble_eq_true rfl) | ((try simp only [List.length_map, List.length_append, List.length_cons, List.length_nil, List.length_set, List.length_replicate, List.length_take, List.length_drop, List.length_reverse]); first | assumption | lia) | decide)) | refine eq_nn ?_ | refine own_q ?_ | (refine set_p ?_; refine ⟨_, by with_unfolding_all rfl, by (first | assumption | (with_unfolding_all exact Nat.le_of_ble_eq_true rfl) | (apply Nat.le_trans; assumption; with_unfolding_all exact Nat.le_of_ble_eq_true rfl) | (apply Nat.lt_of_le_of_lt; assumption; with_unfolding_all exact Nat.le_of_ble_eq_true rfl) | ((try simp only [List.length_map, List.length_append, List.length_cons, List.length_nil, List.length_set, List.length_replicate, List.length_take, List.length_drop, List.length_reverse]); first | assumption | lia) | decide), by (first | assumption | (with_unfolding_all exact Nat.le_of_ble_eq_true rfl) | (apply Nat.le_trans; assumption; with_unfolding_all exact Nat.le_of_ble_eq_true rfl) | (apply Nat.lt_of_le_of_lt; assumption; with_unfolding_all exact Nat.le_of_ble_eq_true rfl) | ((try simp only [List.length_map, List.length_append, List.length_cons, List.length_nil, List.length_set, List.length_replicate, List.length_take, List.length_drop, List.length_reverse]); first | assumption | lia) | decide), ?_⟩) | refine ⟨⟨_, by with_unfolding_all rfl⟩, ?_⟩)
      refine loop_next (next_of ⟨g1, qs.set p l, rfl, tk.dig, tk.len.trans hgl, n1, hqd.set _ hlB, List.length_set.trans hql, hqp' _, ?_⟩)
      rw [k2]; exact n2
    · obtain ⟨k0, k1, k2⟩ := K0.2 rfl
      repeat (with_reducible first | (refine x_name ?_; refine ⟨_, by with_unfolding_all rfl, ?_⟩) | refine e_nat ?_ | refine l_cons ?_ | refine l_nil ?_ | refine ⟨rfl, ?_⟩ | refine sto_l ?_ | refine ⟨_, rfl, ?_⟩ | refine e_call ?_ | refine x_aug ?_ | refine s_expr ?_ | refine b_next ?_ | (refine ite_t ?_ ?_; (first | assumption | (with_unfolding_all exact Nat.le_of_ble_eq_true rfl) | (apply Nat.le_trans; assumption; with_unfolding_all exact Nat.le_of_ble_eq_true rfl) | (apply Nat.lt_of_le_of_lt; assumption; with_unfolding_all exact Nat.le_of_ble_eq_true rfl) | ((try simp only [List.length_map, List.length_append, List.length_cons, List.length_nil, List.length_set, List.length_replicate, List.length_take, List.length_drop, List.length_reverse]); first | assumption | lia) | decide)) | refine k_ref (Prg.keep (by assumption) (by decide)) ?_ | (refine isub_nn ?_ ?_; (first | assumption | (with_unfolding_all exact Nat.le_of_ble_eq_true rfl) | (apply Nat.le_trans; assumption; with_unfolding_all exact Nat.le_of_ble_eq_true rfl) | (apply Nat.lt_of_le_of_lt; assumption; with_unfolding_all exact Nat.le_of_ble_eq_true rfl) | ((try simp only [List.length_map, List.length_append, List.length_cons, List.length_nil, List.length_set, List.length_replicate, List.length_take, List.length_drop, List.length_reverse]); first | assumption | lia) | decide)) | refine eq_nn ?_ | (refine e_glob (g_put_back (by assumption)) ?_))
      refine call_lent rfl rfl (put_back_ok P (V := V) hk hys hn.2 (by rw [tk.len]; lia) tk.dig (by rw [tk.len]; lia)) (Nat.le_of_ble_eq_true rfl) ?_
      rintro _ _ ⟨rfl, g2, c, ho, hd2, hl2, hlo2, hhi2, hv2'⟩
      cases ho
      refine lift_v ?_
      have hw2 := back_window hv2' hl2 hlo2 (by rw [tk.len]; lia) hB0
      have hz2 : val (2 ^ k) (g2.drop (p + (ys.length + 1))) = 0 := by rw [← Nat.add_assoc, hhi2, Nat.add_assoc]; exact hz1
      have hR2 := window_lt (n := ys.length + 1) hB0 hd2 (by rw [hl2, tk.len]; lia) hz2
      have hc1 : val (2 ^ k) (g2.drop p) = val (2 ^ k) (gs.drop p) % V := by
        rw [k2] at hw2
        have hlt' : val (2 ^ k) (gs.drop p) % V < (2 ^ k) ^ (ys.length + 1) := Nat.lt_trans (Nat.mod_lt _ (by lia)) (Nat.lt_of_lt_of_le hVlt (Nat.pow_le_pow_right hB0 (Nat.le_succ _)))
        generalize val (2 ^ k) (gs.drop p) % V = r at *
        generalize (2 ^ k) ^ (ys.length + 1) = W at *
        have : c = 1 := by
          rcases Nat.lt_trichotomy c 1 with h | h | h
          · have : c = 0 := by lia
            subst this; lia
          · exact h
          · have := Nat.mul_le_mul_left W (show 2 ≤ c by lia)
            lia
        subst this
        lia
      obtain ⟨n1, n2⟩ := turn g2 (hl2.trans tk.len) (hlo2.trans tk.low) hc1
      repeat (with_reducible first | (refine x_name ?_; refine ⟨_, by with_unfolding_all rfl, ?_⟩) | refine ⟨rfl, ?_⟩ | refine ⟨_, rfl, ?_⟩ | refine x_setitem ?_ | refine b_nil ?_ | refine b_next ?_ | refine then_next ?_ | refine own_q ?_ | (refine set_p ?_; refine ⟨_, by with_unfolding_all rfl, by (first | assumption | (with_unfolding_all exact Nat.le_of_ble_eq_true rfl) | (apply Nat.le_trans; assumption; with_unfolding_all exact Nat.le_of_ble_eq_true rfl) | (apply Nat.lt_of_le_of_lt; assumption; with_unfolding_all exact Nat.le_of_ble_eq_true rfl) | ((try simp only [List.length_map, List.length_append, List.length_cons, List.length_nil, List.length_set, List.length_replicate, List.length_take, List.length_drop, List.length_reverse]); first | assumption | lia) | decide), by (first | assumption | (with_unfolding_all exact Nat.le_of_ble_eq_true rfl) | (apply Nat.le_trans; assumption; with_unfolding_all exact Nat.le_of_ble_eq_true rfl) | (apply Nat.lt_of_le_of_lt; assumption; with_unfolding_all exact Nat.le_of_ble_eq_true rfl) | ((try simp only [List.length_map, List.length_append, List.length_cons, List.length_nil, List.length_set, List.length_replicate, List.length_take, List.length_drop, List.length_reverse]); first | assumption | lia) | decide), ?_⟩) | refine ⟨⟨_, by with_unfolding_all rfl⟩, ?_⟩)
      refine loop_next (next_of ⟨g2, qs.set p (l - 1), rfl, hd2, (hl2.trans tk.len).trans hgl, n1, hqd.set _ (by lia), List.length_set.trans hql, hqp' _, ?_⟩)
      rw [k1]; exact n2
  · rintro _ ⟨gs, qs, rfl, hgd, hgl, hlt, hqd, hql, hqz, hv⟩
    repeat (with_reducible first | (refine x_name ?_; refine ⟨_, by with_unfolding_all rfl, ?_⟩) | refine s_return ?_ | refine b_ret ?_ | refine then_next ?_ | refine then_ret ?_)
    rw [List.drop_zero] at hlt
    have hV0 : 0 < V := by lia
    refine fin_fresh1 (k := 0) rfl rfl ⟨gs, qs, rfl, rfl, hgd, hqd, hgl, by lia, ?_, ?_⟩
    · rw [← hv, Nat.add_mul_mod_self_left, Nat.mod_eq_of_lt hlt]
    · rw [← hv, Nat.add_mul_div_left _ _ hV0, Nat.div_eq_of_lt hlt, Nat.zero_add]
end
end CR
namespace CR
open PySem PySem.W PyProof.Rows
section
variable {prog : Program} {w : World} {K : Frag} {ad : Nat → Addr}
theorem cmp_lt {m n : Nat} (h : m < n) : cmp m n = -1 := if_pos h
theorem cmp_ge {m n : Nat} (h : ¬ m < n) : 0 ≤ cmp m n := by rw [cmp, if_neg h]; split <;> decide
theorem divrem_school_ok (P : Prg K ad) {k m n : Nat} (hk : 1 ≤ k ∧ k ≤ 20) (hm : (limbs (2 ^ k) m).length ≤ 500) (hn : (limbs (2 ^ k) n).length ≤ 500) (hn0 : 0 < n) : FCall prog w K 4 (ad 28) [] [row (limbs (2 ^ k) m), row (limbs (2 ^ k) n), .int k] (fun r _ => r = .val (.tup [row (limbs (2 ^ k) (m / n)), row (limbs (2 ^ k) (m % n))])) := by
  have hB := two_le_pow hk.1
  have hB0 : 0 < 2 ^ k := by lia
  refine enter (P.fn 28 (by decide)) [Nm "a", Nm "b", Nm "w"] (by (intro nm q doc pm an cdv ct vals h; obtain ⟨a, b, c, e⟩ := len3 h; subst e; with_unfolding_all rfl)) (fun _ => rfl) (by decide) rfl [(Nm "a", .pv (row (limbs (2 ^ k) m))), (Nm "b", .pv (row (limbs (2 ^ k) n))), (Nm "w", pn k)] [] rfl rfl ?_
  intro bs L q cd hl hc
  refine let C : Cx := _; let Z : RF → St → Prop := _; (show WB C _ _ Z from ?_)
  have hln : 0 < (limbs (2 ^ k) n).length := List.length_pos_iff.mpr (limbs_ne hB (by lia))
  refine b_then ?_
  repeat (with_reducible first | (refine x_name ?_; refine ⟨_, by with_unfolding_all rfl, ?_⟩) | refine e_nat ?_ | refine l_cons ?_ | refine l_nil ?_ | refine ⟨_, rfl, ?_⟩ | refine t_cmp ?_ | refine e_call ?_ | refine ⟨_, _, _, by with_unfolding_all rfl, by (first | assumption | (with_unfolding_all exact Nat.le_of_ble_eq_true rfl) | (apply Nat.le_trans; assumption; with_unfolding_all exact Nat.le_of_ble_eq_true rfl) | (apply Nat.lt_of_le_of_lt; assumption; with_unfolding_all exact Nat.le_of_ble_eq_true rfl) | ((try simp only [List.length_map, List.length_append, List.length_cons, List.length_nil, List.length_set, List.length_replicate, List.length_take, List.length_drop, List.length_reverse]); first | assumption | lia) | decide), ?_⟩ | refine s_if ?_ | refine b_nil ?_ | refine b_if ?_ | refine then_next ?_ | (refine ite_f ?_ ?_; (first | assumption | (with_unfolding_all exact Nat.le_of_ble_eq_true rfl) | (apply Nat.le_trans; assumption; with_unfolding_all exact Nat.le_of_ble_eq_true rfl) | (apply Nat.lt_of_le_of_lt; assumption; with_unfolding_all exact Nat.le_of_ble_eq_true rfl) | ((try simp only [List.length_map, List.length_append, List.length_cons, List.length_nil, List.length_set, List.length_replicate, List.length_take, List.length_drop, List.length_reverse]); first | assumption | lia) | decide)) | refine k_ref (Prg.keep (by assumption) (by decide)) ?_ | refine k_bi ?_ | refine x_len ?_ | refine eq_nn ?_ | refine b_len (by assumption) ?_ | (refine e_glob (g_compare (by assumption)) ?_))
  refine call_v (compare_ok P (m := m) (n := n) hB (by lia) (by lia)) ?_
  repeat (with_reducible first | refine e_nat ?_ | refine ⟨_, rfl, ?_⟩ | refine lt_ii ?_)
  by_cases hmn : m < n
  · rw [cmp_lt hmn]
    refine ite_t (by decide) ?_
    repeat (with_reducible first | refine l_cons ?_ | refine l_nil ?_ | refine s_return ?_ | refine b_ret ?_ | refine e_list ?_ | refine e_tuple ?_ | refine ⟨[], rfl, by decide, ?_⟩)
    refine .inl ?_
    repeat (with_reducible first | (refine x_name ?_; refine ⟨_, by with_unfolding_all rfl, ?_⟩) | refine l_cons ?_ | refine e_slice ?_ | refine ⟨_, _, _, by with_unfolding_all rfl, by (first | assumption | (with_unfolding_all exact Nat.le_of_ble_eq_true rfl) | (apply Nat.le_trans; assumption; with_unfolding_all exact Nat.le_of_ble_eq_true rfl) | (apply Nat.lt_of_le_of_lt; assumption; with_unfolding_all exact Nat.le_of_ble_eq_true rfl) | ((try simp only [List.length_map, List.length_append, List.length_cons, List.length_nil, List.length_set, List.length_replicate, List.length_take, List.length_drop, List.length_reverse]); first | assumption | lia) | decide), ?_⟩ | refine x_all ?_ | refine o_none ?_)
    refine .inl ?_
    repeat (with_reducible first | refine l_nil ?_ | refine then_ret ?_ | refine ⟨[_, _], by with_unfolding_all rfl, by (first | assumption | (with_unfolding_all exact Nat.le_of_ble_eq_true rfl) | (apply Nat.le_trans; assumption; with_unfolding_all exact Nat.le_of_ble_eq_true rfl) | (apply Nat.lt_of_le_of_lt; assumption; with_unfolding_all exact Nat.le_of_ble_eq_true rfl) | ((try simp only [List.length_map, List.length_append, List.length_cons, List.length_nil, List.length_set, List.length_replicate, List.length_take, List.length_drop, List.length_reverse]); first | assumption | lia) | decide), ?_⟩)
    refine fin_val ?_
    rw [Nat.div_eq_of_lt hmn, Nat.mod_eq_of_lt hmn, limbs_zero]; rfl
  · have hc0 := cmp_ge hmn
    refine ite_f (by lia) ?_
    repeat (with_reducible first | (refine x_name ?_; refine ⟨_, by with_unfolding_all rfl, ?_⟩) | refine e_nat ?_ | refine l_cons ?_ | refine l_nil ?_ | refine ⟨_, rfl, ?_⟩ | refine t_cmp ?_ | refine e_call ?_ | refine ⟨_, _, _, by with_unfolding_all rfl, by (first | assumption | (with_unfolding_all exact Nat.le_of_ble_eq_true rfl) | (apply Nat.le_trans; assumption; with_unfolding_all exact Nat.le_of_ble_eq_true rfl) | (apply Nat.lt_of_le_of_lt; assumption; with_unfolding_all exact Nat.le_of_ble_eq_true rfl) | ((try simp only [List.length_map, List.length_append, List.length_cons, List.length_nil, List.length_set, List.length_replicate, List.length_take, List.length_drop, List.length_reverse]); first | assumption | lia) | decide), ?_⟩ | refine s_if ?_ | refine b_nil ?_ | refine b_if ?_ | refine then_next ?_ | refine k_bi ?_ | refine x_len ?_ | refine eq_nn ?_ | refine b_len (by assumption) ?_)
    by_cases hnB : n < 2 ^ k
    · rw [limbs_one hB ⟨hn0, hnB⟩]
      refine ite_t rfl ?_
      repeat (with_reducible first | (refine x_name ?_; refine ⟨_, by with_unfolding_all rfl, ?_⟩) | refine l_cons ?_ | refine l_nil ?_ | refine e_call ?_ | refine s_return ?_ | refine b_ret ?_ | refine k_ref (Prg.keep (by assumption) (by decide)) ?_ | (refine e_glob (g_divrem_small (by assumption)) ?_))
      refine call_v (divrem_small_ok P (m := m) hk (by lia) ⟨hn0, hnB⟩) ?_
      repeat (with_reducible first | refine then_ret ?_)
      exact fin_val rfl
    · have hln2 : 2 ≤ (limbs (2 ^ k) n).length := by
        rw [limbs_pos hB (by lia), List.length_cons]
        have : (limbs (2 ^ k) (n / 2 ^ k)).length ≠ 0 := fun e => limbs_ne hB (n := n / 2 ^ k) (by have := Nat.div_pos (show 2 ^ k ≤ n by lia) hB0; lia) (List.length_eq_zero_iff.mp e)
        lia
      refine ite_f (by lia) ?_
      obtain ⟨x, hx⟩ : ∃ x, (limbs (2 ^ k) n).getLast? = some x := ⟨_, List.getLast?_eq_some_getLast (limbs_ne hB (by lia))⟩
      have hx0 := limbs_last hB n x hx
      have hxi : (limbs (2 ^ k) n)[(limbs (2 ^ k) n).length - 1]? = some x := by rw [← List.getLast?_eq_getElem?]; exact hx
      have hxB := (limbs_dig hB n).get hxi
      have hbl : Builtin.Int.intBits (x : Int) ≤ k := bits_le hxB
      repeat (with_reducible first | (refine x_name ?_; refine ⟨_, by with_unfolding_all rfl, ?_⟩) | refine l_cons ?_ | refine l_nil ?_ | refine e_bin ?_ | refine sto_l ?_ | refine e_sub ?_ | refine e_call ?_ | refine ⟨_, _, _, _, by with_unfolding_all rfl, by (first | assumption | with_unfolding_all assumption), by (first | assumption | (with_unfolding_all exact Nat.le_of_ble_eq_true rfl) | (apply Nat.le_trans; assumption; with_unfolding_all exact Nat.le_of_ble_eq_true rfl) | (apply Nat.lt_of_le_of_lt; assumption; with_unfolding_all exact Nat.le_of_ble_eq_true rfl) | ((try simp only [List.length_map, List.length_append, List.length_cons, List.length_nil, List.length_set, List.length_replicate, List.length_take, List.length_drop, List.length_reverse]); first | assumption | lia) | decide), ?_⟩ | refine x_assign ?_ | refine b_nil ?_ | refine b_next ?_ | refine then_next ?_ | refine k_ref (Prg.keep (by assumption) (by decide)) ?_ | refine x_ixl ?_ | refine e_list ?_ | refine e_neg1 ?_ | refine ⟨[_], by with_unfolding_all rfl, by (first | assumption | (with_unfolding_all exact Nat.le_of_ble_eq_true rfl) | (apply Nat.le_trans; assumption; with_unfolding_all exact Nat.le_of_ble_eq_true rfl) | (apply Nat.lt_of_le_of_lt; assumption; with_unfolding_all exact Nat.le_of_ble_eq_true rfl) | ((try simp only [List.length_map, List.length_append, List.length_cons, List.length_nil, List.length_set, List.length_replicate, List.length_take, List.length_drop, List.length_reverse]); first | assumption | lia) | decide), ?_⟩ | (refine e_glob (g_bits (by assumption)) ?_))
      refine .inl ?_
      repeat (with_reducible first | (refine x_name ?_; refine ⟨_, by with_unfolding_all rfl, ?_⟩) | refine l_cons ?_ | refine l_nil ?_)
      refine call_v (bits_ok P) ?_
      repeat (with_reducible first | (refine x_name ?_; refine ⟨_, by with_unfolding_all rfl, ?_⟩) | refine l_cons ?_ | refine l_nil ?_ | refine ⟨rfl, ?_⟩ | refine sto_l ?_ | refine e_call ?_ | refine x_assign ?_ | refine b_next ?_ | refine k_ref (Prg.keep (by assumption) (by decide)) ?_ | (refine sub_nn ?_ ?_; (first | assumption | (with_unfolding_all exact Nat.le_of_ble_eq_true rfl) | (apply Nat.le_trans; assumption; with_unfolding_all exact Nat.le_of_ble_eq_true rfl) | (apply Nat.lt_of_le_of_lt; assumption; with_unfolding_all exact Nat.le_of_ble_eq_true rfl) | ((try simp only [List.length_map, List.length_append, List.length_cons, List.length_nil, List.length_set, List.length_replicate, List.length_take, List.length_drop, List.length_reverse]); first | assumption | lia) | decide)) | (refine e_glob (g_shift_left (by assumption)) ?_))
      have hb1 : 1 ≤ Builtin.Int.intBits (x : Int) := by
        refine Decidable.byContradiction fun h => ?_
        have : Builtin.Int.intBits (x : Int) ≤ 0 := by lia
        have := intBits_le_iff.mp this
        simp at this; lia
      have hxb : x < 2 ^ Builtin.Int.intBits (x : Int) := by
        have := intBits_le_iff.mp (Nat.le_refl (Builtin.Int.intBits (x : Int)))
        rwa [Int.natAbs_natCast] at this
      obtain ⟨s, hs⟩ : ∃ s, k - Builtin.Int.intBits (x : Int) = s := ⟨_, rfl⟩
      rw [hs]
      have hsk : s < k := by lia
      have hs0 := Nat.two_pow_pos s
      obtain ⟨f1, f2, f3, f4⟩ := norm_facts (m := m) (s := s) hk.1 hxi hn0 hxb (by lia) (by lia)
      refine call_n (shift_left_ok P (m := n) hk (by lia) hsk) (.inl ?_)
      repeat (with_reducible first | (refine x_name ?_; refine ⟨_, by with_unfolding_all rfl, ?_⟩) | refine l_cons ?_ | refine l_nil ?_ | refine ⟨rfl, ?_⟩ | refine sto_l ?_ | refine e_call ?_ | refine x_assign ?_ | refine b_next ?_ | refine k_ref (Prg.keep (by assumption) (by decide)) ?_ | (refine e_glob (g_shift_left (by assumption)) ?_))
      refine call_n (shift_left_ok P (m := m) hk (by lia) hsk) (.inl ?_)
      repeat (with_reducible first | (refine x_name ?_; refine ⟨_, by with_unfolding_all rfl, ?_⟩) | refine e_nat ?_ | refine l_cons ?_ | refine l_nil ?_ | refine e_bin ?_ | refine ⟨rfl, ?_⟩ | refine sto_l ?_ | refine x_assign ?_ | refine b_next ?_ | refine e_list ?_ | refine ⟨[_], by with_unfolding_all rfl, by (first | assumption | (with_unfolding_all exact Nat.le_of_ble_eq_true rfl) | (apply Nat.le_trans; assumption; with_unfolding_all exact Nat.le_of_ble_eq_true rfl) | (apply Nat.lt_of_le_of_lt; assumption; with_unfolding_all exact Nat.le_of_ble_eq_true rfl) | ((try simp only [List.length_map, List.length_append, List.length_cons, List.length_nil, List.length_set, List.length_replicate, List.length_take, List.length_drop, List.length_reverse]); first | assumption | lia) | decide), ?_⟩)
      refine .inl ?_
      repeat (with_reducible first | (refine x_name ?_; refine ⟨_, by with_unfolding_all rfl, ?_⟩) | refine e_nat ?_ | refine l_cons ?_ | refine l_nil ?_ | refine e_bin ?_ | refine e_call ?_ | refine add_nn ?_ | refine ⟨_, _, _, by with_unfolding_all rfl, by (first | assumption | (with_unfolding_all exact Nat.le_of_ble_eq_true rfl) | (apply Nat.le_trans; assumption; with_unfolding_all exact Nat.le_of_ble_eq_true rfl) | (apply Nat.lt_of_le_of_lt; assumption; with_unfolding_all exact Nat.le_of_ble_eq_true rfl) | ((try simp only [List.length_map, List.length_append, List.length_cons, List.length_nil, List.length_set, List.length_replicate, List.length_take, List.length_drop, List.length_reverse]); first | assumption | lia) | decide), ?_⟩ | refine k_bi ?_ | refine x_len ?_ | (refine sub_nn ?_ ?_; (first | assumption | (with_unfolding_all exact Nat.le_of_ble_eq_true rfl) | (apply Nat.le_trans; assumption; with_unfolding_all exact Nat.le_of_ble_eq_true rfl) | (apply Nat.lt_of_le_of_lt; assumption; with_unfolding_all exact Nat.le_of_ble_eq_true rfl) | ((try simp only [List.length_map, List.length_append, List.length_cons, List.length_nil, List.length_set, List.length_replicate, List.length_take, List.length_drop, List.length_reverse]); first | assumption | lia) | decide)) | (refine mul_zero ?_ ?_; (first | assumption | (with_unfolding_all exact Nat.le_of_ble_eq_true rfl) | (apply Nat.le_trans; assumption; with_unfolding_all exact Nat.le_of_ble_eq_true rfl) | (apply Nat.lt_of_le_of_lt; assumption; with_unfolding_all exact Nat.le_of_ble_eq_true rfl) | ((try simp only [List.length_map, List.length_append, List.length_cons, List.length_nil, List.length_set, List.length_replicate, List.length_take, List.length_drop, List.length_reverse]); first | assumption | lia) | decide)) | refine b_len (by assumption) ?_)
      refine .inl ?_
      repeat (with_reducible first | refine x_addl ?_ | refine ⟨_, _, _, _, by with_unfolding_all rfl, by with_unfolding_all rfl, by (first | assumption | (with_unfolding_all exact Nat.le_of_ble_eq_true rfl) | (apply Nat.le_trans; assumption; with_unfolding_all exact Nat.le_of_ble_eq_true rfl) | (apply Nat.lt_of_le_of_lt; assumption; with_unfolding_all exact Nat.le_of_ble_eq_true rfl) | ((try simp only [List.length_map, List.length_append, List.length_cons, List.length_nil, List.length_set, List.length_replicate, List.length_take, List.length_drop, List.length_reverse]); first | assumption | lia) | decide), ?_⟩)
      refine .inr ?_
      have g1 : (limbs (2 ^ k) (m * 2 ^ s) ++ List.replicate ((limbs (2 ^ k) m).length + 1 - (limbs (2 ^ k) (m * 2 ^ s)).length) 0).length = (limbs (2 ^ k) m).length + 1 := by simp; lia
      have g2 : Dig (2 ^ k) (limbs (2 ^ k) (m * 2 ^ s) ++ List.replicate ((limbs (2 ^ k) m).length + 1 - (limbs (2 ^ k) (m * 2 ^ s)).length) 0) := (limbs_dig hB _).append (Dig.zeros hB0 _)
      have g3 : val (2 ^ k) (limbs (2 ^ k) (m * 2 ^ s) ++ List.replicate ((limbs (2 ^ k) m).length + 1 - (limbs (2 ^ k) (m * 2 ^ s)).length) 0) = m * 2 ^ s := by rw [val_append, val_zeros, Nat.mul_zero, Nat.add_zero, val_limbs hB]
      repeat (with_reducible first | (refine x_name ?_; refine ⟨_, by with_unfolding_all rfl, ?_⟩) | refine l_cons ?_ | refine l_nil ?_ | refine ⟨rfl, ?_⟩ | refine sto_l ?_ | refine e_call ?_ | refine x_assign ?_ | refine b_next ?_ | refine k_ref (Prg.keep (by assumption) (by decide)) ?_ | (refine e_glob (g_divide_rows (by assumption)) ?_))
      refine call_lent rfl rfl (divide_rows_ok P (V := n * 2 ^ s) (rs := limbs (2 ^ k) (m * 2 ^ s) ++ List.replicate ((limbs (2 ^ k) m).length + 1 - (limbs (2 ^ k) (m * 2 ^ s)).length) 0) hk rfl (by lia) (by lia) g2 (by rw [g1, f1]; exact f4)) (Nat.le_of_ble_eq_true rfl) ?_
      rintro _ _ ⟨rs', qs, rfl, ho, h1, h2, h3, h4, h5, h6⟩
      cases ho
      refine .inl ?_
      rw [g3] at h5 h6
      refine ⟨rfl, W.freeze (k := 0) (xs := rs'.map pnat) rfl (by rw [hl]; exact Nat.zero_le _) (W.state [(Nm "quotient", .pv (row qs)), (Nm "rest", .pv (row rs')), (Nm "shift", pn s), (Nm "w", pn k)] [none] ?_)⟩
      repeat (with_reducible first | (refine x_name ?_; refine ⟨_, by with_unfolding_all rfl, ?_⟩) | refine l_cons ?_ | refine l_nil ?_ | refine e_call ?_ | refine s_return ?_ | refine b_ret ?_ | refine k_ref (Prg.keep (by assumption) (by decide)) ?_ | refine e_tuple ?_ | (refine e_glob (g_normal (by assumption)) ?_))
      refine call_v (normal_ok P qs (by lia)) ?_
      repeat (with_reducible first | (refine x_name ?_; refine ⟨_, by with_unfolding_all rfl, ?_⟩) | refine l_cons ?_ | refine l_nil ?_ | refine e_call ?_ | refine k_ref (Prg.keep (by assumption) (by decide)) ?_ | (refine e_glob (g_normal (by assumption)) ?_) | (refine e_glob (g_shift_right (by assumption)) ?_))
      refine call_v (normal_ok P rs' (by lia)) ?_
      rw [strip_limbs hB h1, strip_limbs hB h2, h5, h6]
      rw [Nat.mul_mod_mul_right, Nat.mul_div_mul_right _ _ hs0]
      repeat (with_reducible first | (refine x_name ?_; refine ⟨_, by with_unfolding_all rfl, ?_⟩) | refine l_cons ?_ | refine l_nil ?_)
      refine call_v (shift_right_ok P (m := m % n * 2 ^ s) hk ?_ hsk) ?_
      · have := Nat.mod_le m n
        have h8 := limbs_len hB ((limbs (2 ^ k) m).length + 1) (m % n * 2 ^ s) (by
          rw [Nat.pow_succ]
          refine Nat.lt_of_lt_of_le (Nat.mul_lt_mul_of_pos_right (Nat.lt_of_le_of_lt this (limbs_lt hB)) hs0) (Nat.mul_le_mul_left _ (Nat.pow_le_pow_right (by decide) (by lia)))
          )
        lia
      repeat (with_reducible first | refine l_nil ?_ | refine then_ret ?_ | refine ⟨[_, _], by with_unfolding_all rfl, by (first | assumption | (with_unfolding_all exact Nat.le_of_ble_eq_true rfl) | (apply Nat.le_trans; assumption; with_unfolding_all exact Nat.le_of_ble_eq_true rfl) | (apply Nat.lt_of_le_of_lt; assumption; with_unfolding_all exact Nat.le_of_ble_eq_true rfl) | ((try simp only [List.length_map, List.length_append, List.length_cons, List.length_nil, List.length_set, List.length_replicate, List.length_take, List.length_drop, List.length_reverse]); first | assumption | lia) | decide), ?_⟩)
      refine fin_val ?_
      rw [Nat.mul_div_cancel _ hs0]
end
end CR
namespace CR
open PySem PySem.W PyProof.Rows

section
variable {C : Cx} {σ : St} {Q : Loc → St → Prop} {R : RF → St → Prop}

/-! lists of ints compared -/
theorem ints_are {V : View} : ∀ (ns : List Nat) (vs : List Value), Reps V (ns.map pnat) vs → IntsAre vs (ns.map fun n : Nat => (n : Int))
  | [], vs, h => by rw [h.nil_inv]; exact .nil
  | n :: ns, vs, h => by
    obtain ⟨v, vs', rfl, hv, hs⟩ := Reps.cons_inv (by simpa using h)
    simp only [Rep] at hv
    obtain ⟨t, rfl⟩ := hv
    exact .cons _ _ (ints_are ns vs' hs)
theorem cast_inj (ns ms : List Nat) : decide ((ns.map fun n : Nat => (n : Int)) = ms.map fun n : Nat => (n : Int)) = decide (ns = ms) := by
  refine decide_eq_decide.mpr ⟨fun h => ?_, fun h => by rw [h]⟩
  exact (List.map_inj_right (fun a b e => Int.ofNat_inj.mp e)).mp h
theorem ne_ll {ns ms : List Nat} (q : Q (.pv (.bool (!decide (ns = ms)))) σ) : W2 C LocRep (compareOp .NotEq) (.pv (.list (ns.map pnat))) (.pv (.list (ms.map pnat))) σ Q := fun A E s V ads Q' v v' rm R r r' g => by
  simp only [LocRep, Rep] at r r'
  obtain ⟨l, vs, n, rfl, hl, rs⟩ := r
  obtain ⟨l', vs', n', rfl, hl', rs'⟩ := r'
  have h1 : s.heap.IsList l vs.toList.toArray := by simpa using R.sees.isList hl
  have h2 : s.heap.IsList l' vs'.toList.toArray := by simpa using R.sees.isList hl'
  refine ne_intsK h1 (ints_are ns _ rs) h2 (ints_are ms _ rs') (by have := rm.units; lia) (g _ _ V ads (.pv (.bool (!decide (ns = ms)))) σ (View.Le.refl V) (Pre.refl _) R ?_ q)
  simp only [LocRep, Rep]
  rw [cast_inj]
theorem ne_l0 {ns : List Nat} (q : Q (.pv (.bool (!decide (ns = [])))) σ) : W2 C LocRep (compareOp .NotEq) (.pv (.list (ns.map pnat))) (.pv (.list [])) σ Q := ne_ll (ms := []) q

/-! any of bools -/
theorem bools_are {V : View} : ∀ (bs : List Bool) (vs : List Value), Reps V (bs.map PV.bool) vs → LSm.BoolsAre vs bs
  | [], vs, h => by rw [h.nil_inv]; exact .nil
  | n :: ns, vs, h => by
    obtain ⟨v, vs', rfl, hv, hs⟩ := Reps.cons_inv (by simpa using h)
    simp only [Rep] at hv
    subst hv
    exact .cons _ (bools_are ns vs' hs)
theorem f_any {bs : List Bool} (q : Q (.pv (.bool (bs.any id))) σ) : WCall C (.builtin "any") [.pv (.list (bs.map PV.bool))] σ Q := fun A E s V ads Q' vs rm R r₁ g => by
  obtain ⟨v, vs', rfl, hv, rfl⟩ := r₁
  simp only [LocRep, Rep] at hv
  obtain ⟨l, us, n, rfl, hl, rs⟩ := hv
  have hL := R.sees.isList hl
  have hb := bools_are bs _ rs
  have hlt : l < s.heap.objs.size := by obtain ⟨_, e, _⟩ := hL; exact Heap.lt_size e
  refine call_any_walk (wpAny_pyIter_list hL ?_)
  refine ⟨s.heap.objs.size, [s.heap.objs.size, l], [s.heap.objs.size], us.size, _, _, fun i => (bs[i]?).getD false, rfl, Walks.list (A := A.in1) rm.handled _ l (Nat.ne_of_lt hlt) us,
    ⟨⟨_, Heap.get?_push_size _ rfl, rfl, rfl⟩, hL.push _⟩, fun i v s' Q' E' hP hQ => ?_, fun h' tk hk => ?_⟩
  · obtain ⟨b, e, rfl⟩ := hb.get i v (by simpa using hP)
    simp only [e, Option.getD_some] at hQ
    exact wpAny_truthy_bool hQ
  · have e : ((List.range us.size).any fun i => (bs[i]?).getD false) = bs.any id := by
      have := hb.length
      simp only [Array.length_toList] at this
      rw [this]; exact LSm.range_any bs
    rw [e]
    exact g _ _ V ads (.pv (.bool (bs.any id))) σ (View.Le.refl V) (Pre.refl _) (R.keeps ⟨h', tk, rfl⟩ (LSm.kept_iter hk)) (by simp only [LocRep, Rep]) q

/-! a call in a place of truth -/
theorem t_call {f : Expr} {args : List Expr} {kws : List Keyword} {pos : Pos} {N : Bool → St → Prop} (h : WE C (.Call f args kws pos) σ fun r σ₁ => ∃ b, r = .pv (.bool b) ∧ N b σ₁)
    (he : ∀ whole, isTrue (.Call f args kws pos) C.env whole = (do let v ← whole; standAt (Expr.Call f args kws pos).pos; holding [v] (truthy v)) := by intro _; with_unfolding_all rfl) : WT C (.Call f args kws pos) σ N := fun A E s V ads Q' rm R g =>
  wpAny_isTrue_value (h A E s V ads _ rm R fun v s₁ V₁ ads₁ r σ₁ le₁ pr₁ R₁ r₁ h₁ => by
    obtain ⟨b, rfl, q⟩ := h₁
    simp only [LocRep, Rep] at r₁
    subst r₁
    exact wpAny_truthy_bool (g b s₁ V₁ ads₁ b σ₁ le₁ pr₁ R₁ rfl q)) (he _)

/-! `a <= b < c` in a place of truth -/
theorem t_chain {l r₁ r₂ : Expr} {op₁ op₂ : CmpOp} {pos : Pos} {N : Bool → St → Prop}
    (h : WE C l σ fun a σ₁ => WE C r₁ σ₁ fun b σ₂ => W2 C LocRep (compareOp op₁) a b σ₂ fun c σ₃ => ∃ t, c = .pv (.bool t) ∧ if t = true then WE C r₂ σ₃ fun d σ₄ => W2 C LocRep (compareOp op₂) b d σ₄ fun c' σ₅ => ∃ t', c' = .pv (.bool t') ∧ N t' σ₅ else N false σ₃)
    (hm : lastMarks [op₁, op₂] [r₁, r₂] = false := by with_unfolding_all rfl) : WT C (.Compare l [op₁, op₂] [r₁, r₂] pos) σ N := fun A E s V ads Q' rm R g => by
  refine isTrue_chain (h A E s V ads _ rm R fun v s₁ V₁ ads₁ a σ₁ le₁ pr₁ R₁ ra h₁ => ?_) hm
  refine test_link (h₁ A E s₁ V₁ ads₁ _ rm R₁ fun v' s₂ V₂ ads₂ b σ₂ le₂ pr₂ R₂ rb h₂ => ?_)
  refine h₂ A E s₂ V₂ ads₂ _ v v' rm R₂ (ra.mono le₂ pr₂) rb fun c s₃ V₃ ads₃ lc σ₃ le₃ pr₃ R₃ rc h₃ => ?_
  obtain ⟨t, rfl, h₃⟩ := h₃
  simp only [LocRep, Rep] at rc
  subst rc
  refine wpAny_truthy_bool ?_
  have g₃ := ((g.later le₁ pr₁).later le₂ pr₂).later le₃ pr₃
  cases t with
  | false =>
    simp only [Bool.false_eq_true, if_false] at h₃ ⊢
    exact g₃ false s₃ V₃ ads₃ false σ₃ (View.Le.refl _) (Pre.refl _) R₃ rfl h₃
  | true =>
    simp only [if_true] at h₃ ⊢
    refine test_last (h₃ A E s₃ V₃ ads₃ _ rm R₃ fun v₄ s₄ V₄ ads₄ d σ₄ le₄ pr₄ R₄ rd h₄ => ?_)
    refine h₄ A E s₄ V₄ ads₄ _ v' v₄ rm R₄ ((rb.mono le₃ pr₃).mono le₄ pr₄) rd fun c' s₅ V₅ ads₅ lc' σ₅ le₅ pr₅ R₅ rc' h₅ => ?_
    obtain ⟨t', rfl, q⟩ := h₅
    simp only [LocRep, Rep] at rc'
    subst rc'
    exact wpAny_truthy_bool (g₃ t' s₅ V₅ ads₅ t' σ₅ (le₄.trans le₅) (pr₄.trans pr₅) R₅ rfl q)

theorem e_0m1 {k k' : Nat} {p p' pos : Pos} (q : Q (.pv (.int (-1))) σ) : WE C (.BinOp (.Constant (.int 0) k p) .Sub (.Constant (.int 1) k' p') pos) σ Q := e_bin (e_int (e_int (sub_ii q)))
theorem x_ixp {a : Loc} {value slice : Expr} {i : Nat} (h : ∃ xs x, Lis σ a xs ∧ xs[i]? = some x ∧ i < 1000000000 ∧ Q (.pv x) σ) (hs : ∀ o i, subscripted slice false o i = operate [o, i] (getItem o i) := by intro _ _; with_unfolding_all rfl) : W2 C LocRep (subscriptTail value slice) a (pn i) σ Q :=
  let ⟨_, _, h1, h2, h3, h4⟩ := h; ix_list h1 (Int.natCast_nonneg i) (by lia) (by rw [Int.toNat_natCast]; exact h2) h4 hs
theorem set_dq {k n : Nat} {d : PV} {P : St → Prop} (h : ∃ ys, σ.O[k]? = some (some ys) ∧ n < ys.length ∧ n < 1000000 ∧ P (σ.setO k (some (ys.set n d)))) : SetQ σ k n (.pv d) P := let ⟨_, h1, h2, h3, h4⟩ := h; set_d h1 h2 h3 h4
end

end CR
namespace CR
open PySem PySem.W PyProof.Rows

section
variable {C : Cx} {σ : St}
inductive Rd (σ : St) (scope : Scope) (env : Env) : List (Str × Loc) → Prop
  | nil : Rd σ scope env []
  | cons {x : Str} {l : Loc} {r : List (Str × Loc)} : σ.ρ.lookup x = some l → readable scope env x = true → Rd σ scope env r → Rd σ scope env ((x, l) :: r)
theorem rd_lookup {scope : Scope} {env : Env} : ∀ {ρ' : List (Str × Loc)}, Rd σ scope env ρ' → ∀ x l, ρ'.lookup x = some l → σ.ρ.lookup x = some l ∧ readable scope env x = true
  | [], _, _, _, h => by simp at h
  | (y, m) :: r, h', x, l, h => by
    cases h' with
    | cons h1 h2 h3 =>
      rw [List.lookup_cons] at h
      cases e : x == y with
      | true =>
        rw [e] at h; cases h
        rw [beq_iff_eq.mp e]; exact ⟨h1, h2⟩
      | false =>
        rw [e] at h
        exact rd_lookup h3 x l h

section
variable {scope : Scope} {target elt : Expr} {Fin : List PV → St → Prop}
/-- one value out of each, by an invariant on the state -/
theorem comp_inv {α : Type} {f g : α → PV} {xs : List α} (ρ₁ : List (Str × Loc)) (hn : xs.length ≤ 1000000)
    (step : ∀ C0 bs', bs'.lent.length = σ.O.length → bs'.cellsOwn = false → ∀ (i : Nat) x, xs[i]? = some x → WAsg (C.inner scope (closureList scope C.env) C0 bs') target (.pv (f x)) ⟨ρ₁, σ.O⟩ fun σ₂ => WE (C.inner scope (closureList scope C.env) C0 bs') elt σ₂ fun r σ₃ => r = .pv (g x) ∧ Less σ₃ ⟨ρ₁, σ.O⟩)
    (fin : Fin (xs.map g) σ) (hρ : Rd σ scope C.env ρ₁ := by repeat (first | exact Rd.nil | refine Rd.cons (by with_unfolding_all rfl) (by with_unfolding_all rfl) ?_)) : CompOf C scope target [] elt ((xs.map f).map Item.one) σ Fin := by
  refine ⟨by rw [List.length_map, List.length_map]; exact hn, ρ₁, rd_lookup hρ, fun i zs σ₁ => zs = (xs.take i).map g ∧ σ₁ = ⟨ρ₁, σ.O⟩, ⟨by rw [List.take_zero]; rfl, rfl⟩, ?_, ?_⟩
  · rintro C0 bs' h1 h2 i x zs _ hx ⟨rfl, rfl⟩
    rw [List.getElem?_map, List.getElem?_map] at hx
    cases e : xs[i]? with
    | none => rw [e] at hx; cases hx
    | some y =>
      rw [e] at hx; cases hx
      refine fun A E s V ads Q' v rm R hr g' => step C0 bs' h1 h2 i y e A E s V ads Q' v rm R hr fun b s' V' ads' a σ' le pr R' hb h => g' b s' V' ads' a σ' le pr R' hb ?_
      refine tests_nil ?_
      rw [if_pos rfl]
      exact W.mono h fun r σ₃ ⟨e1, e2⟩ => ⟨g y, _, e1, e2, by rw [List.take_add_one, e]; simp, rfl⟩
  · rintro zs σ' ⟨rfl, rfl⟩
    rw [List.length_map, List.length_map, List.take_length]
    exact fin
theorem comp_enum {α : Type} {f : α → PV} {xs : List α} {es : List Expr} {k : Nat} {p : Pos} {gi : Nat → α → PV} (ρ₁ : List (Str × Loc)) (hn : xs.length ≤ 1000000)
    (step : ∀ C0 bs', bs'.lent.length = σ.O.length → bs'.cellsOwn = false → ∀ (i : Nat) x, xs[i]? = some x → WAsgs (C.inner scope (closureList scope C.env) C0 bs') es [pn i, .pv (f x)] ⟨ρ₁, σ.O⟩ fun σ₂ => WE (C.inner scope (closureList scope C.env) C0 bs') elt σ₂ fun r σ₃ => r = .pv (gi i x) ∧ Less σ₃ ⟨ρ₁, σ.O⟩)
    (fin : Fin (xs.mapIdx gi) σ) (hρ : Rd σ scope C.env ρ₁ := by repeat (first | exact Rd.nil | refine Rd.cons (by with_unfolding_all rfl) (by with_unfolding_all rfl) ?_))
    (hes : ∀ C0 bs', (assignEach es (C.inner scope (closureList scope C.env) C0 bs').env).length = 2 := by intro _ _; with_unfolding_all rfl) (hf : ∀ C0 bs', (assignEach es (C.inner scope (closureList scope C.env) C0 bs').env).findIdx? (·.1) = none := by intro _ _; with_unfolding_all rfl) :
    CompOf C scope (.Tuple es k p) [] elt ((xs.map f).mapIdx fun i x => Item.many [.int i, x]) σ Fin := by
  refine ⟨by rw [List.length_mapIdx, List.length_map]; exact hn, ρ₁, rd_lookup hρ, fun i zs σ₁ => zs = (xs.take i).mapIdx gi ∧ σ₁ = ⟨ρ₁, σ.O⟩, ⟨by rw [List.take_zero]; rfl, rfl⟩, ?_, ?_⟩
  · rintro C0 bs' h1 h2 i x zs _ hx ⟨rfl, rfl⟩
    rw [List.getElem?_mapIdx, List.getElem?_map] at hx
    cases e : xs[i]? with
    | none => rw [e] at hx; cases hx
    | some y =>
      rw [e] at hx; cases hx
      have hi : i < xs.length := (List.getElem?_eq_some_iff.mp e).1
      refine ⟨es, k, p, rfl, hes C0 bs', hf C0 bs', ?_⟩
      refine fun A E s V ads Q' v rm R hr g' => step C0 bs' h1 h2 i y e A E s V ads Q' v rm R hr fun b s' V' ads' a σ' le pr R' hb h => g' b s' V' ads' a σ' le pr R' hb ?_
      refine tests_nil ?_
      rw [if_pos rfl]
      exact W.mono h fun r σ₃ ⟨e1, e2⟩ => ⟨gi i y, _, e1, e2, by rw [List.take_add_one, e]; simp [List.mapIdx_append, Nat.min_eq_left (Nat.le_of_lt hi)], rfl⟩
  · rintro zs σ' ⟨rfl, rfl⟩
    rw [List.length_mapIdx, List.length_map, List.take_length]
    exact fin
theorem comp_zip {α β : Type} {f : α → PV} {f' : β → PV} {xs : List α} {ys : List β} {es : List Expr} {k : Nat} {p : Pos} {g : α → β → PV} (ρ₁ : List (Str × Loc)) (hn : xs.length ≤ 1000000) (hl : xs.length = ys.length)
    (step : ∀ C0 bs', bs'.lent.length = σ.O.length → bs'.cellsOwn = false → ∀ (i : Nat) x y, xs[i]? = some x → ys[i]? = some y → WAsgs (C.inner scope (closureList scope C.env) C0 bs') es [.pv (f x), .pv (f' y)] ⟨ρ₁, σ.O⟩ fun σ₂ => WE (C.inner scope (closureList scope C.env) C0 bs') elt σ₂ fun r σ₃ => r = .pv (g x y) ∧ Less σ₃ ⟨ρ₁, σ.O⟩)
    (fin : Fin (List.zipWith g xs ys) σ) (hρ : Rd σ scope C.env ρ₁ := by repeat (first | exact Rd.nil | refine Rd.cons (by with_unfolding_all rfl) (by with_unfolding_all rfl) ?_))
    (hes : ∀ C0 bs', (assignEach es (C.inner scope (closureList scope C.env) C0 bs').env).length = 2 := by intro _ _; with_unfolding_all rfl) (hf : ∀ C0 bs', (assignEach es (C.inner scope (closureList scope C.env) C0 bs').env).findIdx? (·.1) = none := by intro _ _; with_unfolding_all rfl) :
    CompOf C scope (.Tuple es k p) [] elt (zipItems (xs.map f) (ys.map f')) σ Fin := by
  refine ⟨by rw [zipItems_len, List.length_map, List.length_map]; lia, ρ₁, rd_lookup hρ, fun i zs σ₁ => zs = List.zipWith g (xs.take i) (ys.take i) ∧ σ₁ = ⟨ρ₁, σ.O⟩, ⟨by rw [List.take_zero]; rfl, rfl⟩, ?_, ?_⟩
  · rintro C0 bs' h1 h2 i x zs _ hx ⟨rfl, rfl⟩
    obtain ⟨u, v, hu, hv, rfl⟩ := zipItems_get _ _ _ _ hx
    rw [List.getElem?_map] at hu hv
    cases e : xs[i]? with
    | none => rw [e] at hu; cases hu
    | some y =>
      cases e' : ys[i]? with
      | none => rw [e'] at hv; cases hv
      | some z =>
        rw [e] at hu; cases hu
        rw [e'] at hv; cases hv
        refine ⟨es, k, p, rfl, hes C0 bs', hf C0 bs', ?_⟩
        refine fun A E s V ads Q' v rm R hr g' => step C0 bs' h1 h2 i y z e e' A E s V ads Q' v rm R hr fun b s' V' ads' a σ' le pr R' hb h => g' b s' V' ads' a σ' le pr R' hb ?_
        refine tests_nil ?_
        rw [if_pos rfl]
        exact W.mono h fun r σ₃ ⟨e1, e2⟩ => ⟨g y z, _, e1, e2, by
          rw [List.take_add_one, e, List.take_add_one, e', List.zipWith_append (by rw [List.length_take, List.length_take, hl])]
          rfl, rfl⟩
  · rintro zs σ' ⟨rfl, rfl⟩
    rw [zipItems_len, List.length_map, List.length_map, hl, Nat.min_self]
    rw [List.take_length, List.take_of_length_le (by lia)]
    exact fin
/-- a comprehension whose test lets nothing through -/
theorem comp_none {α : Type} {f : α → PV} {xs : List α} {test : Expr} (ρ₁ : List (Str × Loc)) (hn : xs.length ≤ 1000000)
    (step : ∀ C0 bs', bs'.lent.length = σ.O.length → bs'.cellsOwn = false → ∀ (i : Nat) x, xs[i]? = some x → WAsg (C.inner scope (closureList scope C.env) C0 bs') target (.pv (f x)) ⟨ρ₁, σ.O⟩ fun σ₂ => WT (C.inner scope (closureList scope C.env) C0 bs') test σ₂ fun b σ₃ => b = false ∧ Less σ₃ ⟨ρ₁, σ.O⟩)
    (fin : Fin [] σ) (hρ : Rd σ scope C.env ρ₁ := by repeat (first | exact Rd.nil | refine Rd.cons (by with_unfolding_all rfl) (by with_unfolding_all rfl) ?_)) : CompOf C scope target [test] elt ((xs.map f).map Item.one) σ Fin := by
  refine ⟨by rw [List.length_map, List.length_map]; exact hn, ρ₁, rd_lookup hρ, fun i zs σ₁ => zs = [] ∧ σ₁ = ⟨ρ₁, σ.O⟩, ⟨rfl, rfl⟩, ?_, ?_⟩
  · rintro C0 bs' h1 h2 i x zs _ hx ⟨rfl, rfl⟩
    rw [List.getElem?_map, List.getElem?_map] at hx
    cases e : xs[i]? with
    | none => rw [e] at hx; cases hx
    | some y =>
      rw [e] at hx; cases hx
      refine fun A E s V ads Q' v rm R hr g' => step C0 bs' h1 h2 i y e A E s V ads Q' v rm R hr fun b s' V' ads' a σ' le pr R' hb h => g' b s' V' ads' a σ' le pr R' hb ?_
      refine tests_one (W.mono h fun b σ₃ ⟨e1, e2⟩ => ?_)
      subst e1
      rw [if_neg (by decide)]
      exact ⟨_, e2, rfl, rfl⟩
  · rintro zs σ' ⟨rfl, rfl⟩
    exact fin
theorem comp_zip_none {α β : Type} {f : α → PV} {f' : β → PV} {xs : List α} {ys : List β} {es : List Expr} {k : Nat} {p : Pos} {test : Expr} (ρ₁ : List (Str × Loc)) (hn : xs.length ≤ 1000000) (hl : xs.length = ys.length)
    (step : ∀ C0 bs', bs'.lent.length = σ.O.length → bs'.cellsOwn = false → ∀ (i : Nat) x y, xs[i]? = some x → ys[i]? = some y → WAsgs (C.inner scope (closureList scope C.env) C0 bs') es [.pv (f x), .pv (f' y)] ⟨ρ₁, σ.O⟩ fun σ₂ => WT (C.inner scope (closureList scope C.env) C0 bs') test σ₂ fun b σ₃ => b = false ∧ Less σ₃ ⟨ρ₁, σ.O⟩)
    (fin : Fin [] σ) (hρ : Rd σ scope C.env ρ₁ := by repeat (first | exact Rd.nil | refine Rd.cons (by with_unfolding_all rfl) (by with_unfolding_all rfl) ?_))
    (hes : ∀ C0 bs', (assignEach es (C.inner scope (closureList scope C.env) C0 bs').env).length = 2 := by intro _ _; with_unfolding_all rfl) (hf : ∀ C0 bs', (assignEach es (C.inner scope (closureList scope C.env) C0 bs').env).findIdx? (·.1) = none := by intro _ _; with_unfolding_all rfl) :
    CompOf C scope (.Tuple es k p) [test] elt (zipItems (xs.map f) (ys.map f')) σ Fin := by
  refine ⟨by rw [zipItems_len, List.length_map, List.length_map]; lia, ρ₁, rd_lookup hρ, fun i zs σ₁ => zs = [] ∧ σ₁ = ⟨ρ₁, σ.O⟩, ⟨rfl, rfl⟩, ?_, ?_⟩
  · rintro C0 bs' h1 h2 i x zs _ hx ⟨rfl, rfl⟩
    obtain ⟨u, v, hu, hv, rfl⟩ := zipItems_get _ _ _ _ hx
    rw [List.getElem?_map] at hu hv
    cases e : xs[i]? with
    | none => rw [e] at hu; cases hu
    | some y =>
      cases e' : ys[i]? with
      | none => rw [e'] at hv; cases hv
      | some z =>
        rw [e] at hu; cases hu
        rw [e'] at hv; cases hv
        refine ⟨es, k, p, rfl, hes C0 bs', hf C0 bs', ?_⟩
        refine fun A E s V ads Q' v rm R hr g' => step C0 bs' h1 h2 i y z e e' A E s V ads Q' v rm R hr fun b s' V' ads' a σ' le pr R' hb h => g' b s' V' ads' a σ' le pr R' hb ?_
        refine tests_one (W.mono h fun b σ₃ ⟨e1, e2⟩ => ?_)
        subst e1
        rw [if_neg (by decide)]
        exact ⟨_, e2, rfl, rfl⟩
  · rintro zs σ' ⟨rfl, rfl⟩
    exact fin
end
theorem less_of {ρ' : List (Str × Loc)} {O' : List (Option (List PV))} (hO : O' = σ.O := by with_unfolding_all rfl) (hρ : Has σ.ρ ρ' := by repeat (first | exact Has.nil | refine Has.cons (by with_unfolding_all rfl) ?_)) : Less σ ⟨ρ', O'⟩ := ⟨hO, has_lookup hρ⟩
theorem less_tail {ρ' : List (Str × Loc)} {O' : List (Option (List PV))} (hρ : Has σ.ρ ρ' := by repeat (first | exact Has.nil | refine Has.cons (by with_unfolding_all rfl) ?_)) : ∀ x l, (St.mk ρ' O').ρ.lookup x = some l → σ.ρ.lookup x = some l := has_lookup hρ
theorem ne_00 {Q : Loc → St → Prop} (q : Q (.pv (.bool false)) σ) : W2 C LocRep (compareOp .NotEq) (.pv (.list [])) (.pv (.list [])) σ Q := ne_ll (ns := []) (ms := []) q
theorem x_ixt {xs : List PV} {value slice : Expr} {i : Nat} {Q : Loc → St → Prop} (h : ∃ x, xs[i]? = some x ∧ i < 1000 ∧ Q (.pv x) σ) (hs : ∀ o i, subscripted slice false o i = operate [o, i] (getItem o i) := by intro _ _; with_unfolding_all rfl) : W2 C LocRep (subscriptTail value slice) (.pv (.tup xs)) (pn i) σ Q :=
  let ⟨_, h1, h2, h3⟩ := h; ix_tup h2 h1 h3 hs
end

end CR
namespace CR
open PySem PySem.W PyProof.Rows
abbrev dl (nums : List Nat) (i s : Nat) : List PV := [row nums, pnat i, pnat s]
section
variable {prog : Program} {w : World} {K : Frag} {ad : Nat → Addr}
theorem law_row_ok (P : Prg K ad) {k n : Nat} (hk : 1 ≤ k ∧ k ≤ 20) (hn : (limbs (2 ^ k) n).length ≤ 1000) : FCall prog w K 1 (ad 33) [] [.int n, .int k] (fun r _ => r = .fresh ((limbs (2 ^ k) n).map pnat)) := by
  have hB := two_le_pow hk.1
  have hB0 : 0 < 2 ^ k := by lia
  have hB2 : 2 ^ k ≤ 2 ^ 20 := Nat.pow_le_pow_right (by decide) hk.2
  refine enter (P.fn 33 (by decide)) [Nm "number", Nm "w"] (by (intro nm q doc pm an cdv ct vals h; obtain ⟨a, b, e⟩ := len2 h; subst e; with_unfolding_all rfl)) (fun _ => rfl) (by decide) rfl [(Nm "number", pn n), (Nm "w", pn k)] [] rfl rfl ?_
  intro bs L q cd hl hc
  refine let C : Cx := _; let Z : RF → St → Prop := _; (show WB C _ _ Z from ?_)
  refine b_next ?_
  repeat (with_reducible first | refine l_nil ?_ | refine sto_l ?_ | refine x_assign ?_ | refine e_list ?_ | refine ⟨[], rfl, by decide, ?_⟩)
  refine .inr ?_
  repeat (with_reducible first | refine ⟨rfl, ?_⟩ | refine b_while ?_)
  let I1 : Nat → St → Prop := fun x σ => ∃ ds, σ = ⟨[(Nm "number", pn x), (Nm "w", pn k), (Nm "found", .own 0)], [some (ds.map pnat)]⟩ ∧ ds ++ limbs (2 ^ k) x = limbs (2 ^ k) n
  refine s_while I1 n ⟨[], rfl, rfl⟩ ?_
  rintro x _ ⟨ds, rfl, hd⟩
  have hdl : ds.length ≤ 1000 := by
    have := congrArg List.length hd
    rw [List.length_append] at this; lia
  repeat (with_reducible first | (refine x_name ?_; refine ⟨_, by with_unfolding_all rfl, ?_⟩) | refine e_nat ?_ | refine ⟨_, rfl, ?_⟩ | refine t_cmp ?_ | refine gt_nn ?_)
  refine ite_d (fun h => ?_) (fun h => ?_)
  · repeat (with_reducible first | (refine x_name ?_; refine ⟨_, by with_unfolding_all rfl, ?_⟩) | refine e_nat ?_ | refine e_bin ?_ | refine ⟨rfl, ?_⟩ | refine sto_l ?_ | refine x_assign ?_ | refine s_expr ?_ | refine b_nil ?_ | refine b_next ?_ | (refine mod_nn ?_ ?_; (first | assumption | (with_unfolding_all exact Nat.le_of_ble_eq_true rfl) | (apply Nat.le_trans; assumption; with_unfolding_all exact Nat.le_of_ble_eq_true rfl) | (apply Nat.lt_of_le_of_lt; assumption; with_unfolding_all exact Nat.le_of_ble_eq_true rfl) | ((try simp only [List.length_map, List.length_append, List.length_cons, List.length_nil, List.length_set, List.length_replicate, List.length_take, List.length_drop, List.length_reverse]); first | assumption | lia) | decide)) | (refine div_nn ?_ ?_ ?_; (first | assumption | (with_unfolding_all exact Nat.le_of_ble_eq_true rfl) | (apply Nat.le_trans; assumption; with_unfolding_all exact Nat.le_of_ble_eq_true rfl) | (apply Nat.lt_of_le_of_lt; assumption; with_unfolding_all exact Nat.le_of_ble_eq_true rfl) | ((try simp only [List.length_map, List.length_append, List.length_cons, List.length_nil, List.length_set, List.length_replicate, List.length_take, List.length_drop, List.length_reverse]); first | assumption | lia) | decide); (first | assumption | (with_unfolding_all exact Nat.le_of_ble_eq_true rfl) | (apply Nat.le_trans; assumption; with_unfolding_all exact Nat.le_of_ble_eq_true rfl) | (apply Nat.lt_of_le_of_lt; assumption; with_unfolding_all exact Nat.le_of_ble_eq_true rfl) | ((try simp only [List.length_map, List.length_append, List.length_cons, List.length_nil, List.length_set, List.length_replicate, List.length_take, List.length_drop, List.length_reverse]); first | assumption | lia) | decide)) | (refine pow_nn ?_ ?_; (first | assumption | (with_unfolding_all exact Nat.le_of_ble_eq_true rfl) | (apply Nat.le_trans; assumption; with_unfolding_all exact Nat.le_of_ble_eq_true rfl) | (apply Nat.lt_of_le_of_lt; assumption; with_unfolding_all exact Nat.le_of_ble_eq_true rfl) | ((try simp only [List.length_map, List.length_append, List.length_cons, List.length_nil, List.length_set, List.length_replicate, List.length_take, List.length_drop, List.length_reverse]); first | assumption | lia) | decide)) | refine x_append ?_ | refine own_q ?_ | (refine push_p ?_; refine ⟨_, by with_unfolding_all rfl, by (first | assumption | (with_unfolding_all exact Nat.le_of_ble_eq_true rfl) | (apply Nat.le_trans; assumption; with_unfolding_all exact Nat.le_of_ble_eq_true rfl) | (apply Nat.lt_of_le_of_lt; assumption; with_unfolding_all exact Nat.le_of_ble_eq_true rfl) | ((try simp only [List.length_map, List.length_append, List.length_cons, List.length_nil, List.length_set, List.length_replicate, List.length_take, List.length_drop, List.length_reverse]); first | assumption | lia) | decide), ?_⟩) | refine ⟨⟨_, by with_unfolding_all rfl⟩, ?_⟩)
    refine loop_next (next_of ⟨x / 2 ^ k, Nat.div_lt_self h (by lia), ds ++ [x % 2 ^ k], rfl, ?_⟩)
    rw [← hd, List.append_assoc]
    congr 1
    rw [limbs_pos hB (n := x) (by lia)]; rfl
  · repeat (with_reducible first | (refine x_name ?_; refine ⟨_, by with_unfolding_all rfl, ?_⟩) | refine s_return ?_ | refine b_ret ?_ | refine then_next ?_ | refine then_ret ?_)
    refine fin_fresh rfl ?_
    have : x = 0 := by lia
    rw [this, limbs_zero, List.append_nil] at hd
    rw [hd]
def Taken (many : Nat) (r : Res) (o : List (List PV)) : Prop := ∃ v nums i s, r = .val (.int (v : Nat)) ∧ v < many ∧ o = [dl nums i s] ∧ i ≤ nums.length ∧ nums.length ≤ 100 ∧ s < 2147483647
theorem law_take_ok (P : Prg K ad) {nums : List Nat} {i s many : Nat} (h1 : i ≤ nums.length) (h2 : nums.length ≤ 100) (h3 : s < 2147483647) (hm : 0 < many) : FCall prog w K 1 (ad 31) [dl nums i s] [.int many] (Taken many) := by
  refine enter (P.fn 31 (by decide)) [Nm "deal", Nm "many"] (by (intro nm q doc pm an cdv ct vals h; obtain ⟨a, b, e⟩ := len2 h; subst e; with_unfolding_all rfl)) (fun _ => rfl) (by decide) rfl [(Nm "deal", .own 0), (Nm "many", pn many)] [some (dl nums i s)] rfl rfl ?_
  intro bs L q cd hl hc
  refine let C : Cx := _; let Z : RF → St → Prop := _; (show WB C _ _ Z from ?_)
  refine b_then ?_
  repeat (with_reducible first | (refine x_name ?_; refine ⟨_, by with_unfolding_all rfl, ?_⟩) | refine e_nat ?_ | refine l_cons ?_ | refine l_nil ?_ | refine ⟨_, rfl, ?_⟩ | refine t_cmp ?_ | refine e_sub ?_ | refine e_call ?_ | (refine x_ixp ?_; refine ⟨_, _, by with_unfolding_all rfl, by with_unfolding_all rfl, by (first | assumption | (with_unfolding_all exact Nat.le_of_ble_eq_true rfl) | (apply Nat.le_trans; assumption; with_unfolding_all exact Nat.le_of_ble_eq_true rfl) | (apply Nat.lt_of_le_of_lt; assumption; with_unfolding_all exact Nat.le_of_ble_eq_true rfl) | ((try simp only [List.length_map, List.length_append, List.length_cons, List.length_nil, List.length_set, List.length_replicate, List.length_take, List.length_drop, List.length_reverse]); first | assumption | lia) | decide), ?_⟩) | refine ⟨_, _, _, by with_unfolding_all rfl, by (first | assumption | (with_unfolding_all exact Nat.le_of_ble_eq_true rfl) | (apply Nat.le_trans; assumption; with_unfolding_all exact Nat.le_of_ble_eq_true rfl) | (apply Nat.lt_of_le_of_lt; assumption; with_unfolding_all exact Nat.le_of_ble_eq_true rfl) | ((try simp only [List.length_map, List.length_append, List.length_cons, List.length_nil, List.length_set, List.length_replicate, List.length_take, List.length_drop, List.length_reverse]); first | assumption | lia) | decide), ?_⟩ | refine s_if ?_ | refine k_bi ?_ | refine x_len ?_ | refine lt_nn ?_ | refine b_len (by assumption) ?_)
  refine ite_d (fun h => ?_) (fun h => ?_)
  · obtain ⟨x, hx⟩ : ∃ x, nums[i]? = some x := ⟨_, List.getElem?_eq_getElem h⟩
    repeat (with_reducible first | (refine x_name ?_; refine ⟨_, by with_unfolding_all rfl, ?_⟩) | refine e_nat ?_ | refine e_bin ?_ | refine ⟨rfl, ?_⟩ | refine ⟨_, rfl, ?_⟩ | refine e_sub ?_ | (refine x_ixp ?_; refine ⟨_, _, by with_unfolding_all rfl, by with_unfolding_all rfl, by (first | assumption | (with_unfolding_all exact Nat.le_of_ble_eq_true rfl) | (apply Nat.le_trans; assumption; with_unfolding_all exact Nat.le_of_ble_eq_true rfl) | (apply Nat.lt_of_le_of_lt; assumption; with_unfolding_all exact Nat.le_of_ble_eq_true rfl) | ((try simp only [List.length_map, List.length_append, List.length_cons, List.length_nil, List.length_set, List.length_replicate, List.length_take, List.length_drop, List.length_reverse]); first | assumption | lia) | decide), ?_⟩) | refine x_ix ?_ | refine add_nn ?_ | refine ⟨_, _, _, _, by with_unfolding_all rfl, by (first | assumption | with_unfolding_all assumption), by (first | assumption | (with_unfolding_all exact Nat.le_of_ble_eq_true rfl) | (apply Nat.le_trans; assumption; with_unfolding_all exact Nat.le_of_ble_eq_true rfl) | (apply Nat.lt_of_le_of_lt; assumption; with_unfolding_all exact Nat.le_of_ble_eq_true rfl) | ((try simp only [List.length_map, List.length_append, List.length_cons, List.length_nil, List.length_set, List.length_replicate, List.length_take, List.length_drop, List.length_reverse]); first | assumption | lia) | decide), ?_⟩ | refine x_setitem ?_ | refine s_return ?_ | refine b_ret ?_ | refine b_next ?_ | refine then_ret ?_ | (refine sub_nn ?_ ?_; (first | assumption | (with_unfolding_all exact Nat.le_of_ble_eq_true rfl) | (apply Nat.le_trans; assumption; with_unfolding_all exact Nat.le_of_ble_eq_true rfl) | (apply Nat.lt_of_le_of_lt; assumption; with_unfolding_all exact Nat.le_of_ble_eq_true rfl) | ((try simp only [List.length_map, List.length_append, List.length_cons, List.length_nil, List.length_set, List.length_replicate, List.length_take, List.length_drop, List.length_reverse]); first | assumption | lia) | decide)) | (refine mod_nn ?_ ?_; (first | assumption | (with_unfolding_all exact Nat.le_of_ble_eq_true rfl) | (apply Nat.le_trans; assumption; with_unfolding_all exact Nat.le_of_ble_eq_true rfl) | (apply Nat.lt_of_le_of_lt; assumption; with_unfolding_all exact Nat.le_of_ble_eq_true rfl) | ((try simp only [List.length_map, List.length_append, List.length_cons, List.length_nil, List.length_set, List.length_replicate, List.length_take, List.length_drop, List.length_reverse]); first | assumption | lia) | decide)) | refine own_q ?_ | (refine set_dq ?_; refine ⟨_, by with_unfolding_all rfl, by (first | assumption | (with_unfolding_all exact Nat.le_of_ble_eq_true rfl) | (apply Nat.le_trans; assumption; with_unfolding_all exact Nat.le_of_ble_eq_true rfl) | (apply Nat.lt_of_le_of_lt; assumption; with_unfolding_all exact Nat.le_of_ble_eq_true rfl) | ((try simp only [List.length_map, List.length_append, List.length_cons, List.length_nil, List.length_set, List.length_replicate, List.length_take, List.length_drop, List.length_reverse]); first | assumption | lia) | decide), by (first | assumption | (with_unfolding_all exact Nat.le_of_ble_eq_true rfl) | (apply Nat.le_trans; assumption; with_unfolding_all exact Nat.le_of_ble_eq_true rfl) | (apply Nat.lt_of_le_of_lt; assumption; with_unfolding_all exact Nat.le_of_ble_eq_true rfl) | ((try simp only [List.length_map, List.length_append, List.length_cons, List.length_nil, List.length_set, List.length_replicate, List.length_take, List.length_drop, List.length_reverse]); first | assumption | lia) | decide), ?_⟩) | refine ⟨⟨_, by with_unfolding_all rfl⟩, ?_⟩)
    exact fin_val1 rfl ⟨_, nums, i + 1, s, rfl, Nat.mod_lt _ hm, rfl, h, h2, h3⟩
  · repeat (with_reducible first | (refine x_name ?_; refine ⟨_, by with_unfolding_all rfl, ?_⟩) | refine e_nat ?_ | refine e_bin ?_ | refine ⟨rfl, ?_⟩ | refine ⟨_, rfl, ?_⟩ | refine e_sub ?_ | (refine x_ixp ?_; refine ⟨_, _, by with_unfolding_all rfl, by with_unfolding_all rfl, by (first | assumption | (with_unfolding_all exact Nat.le_of_ble_eq_true rfl) | (apply Nat.le_trans; assumption; with_unfolding_all exact Nat.le_of_ble_eq_true rfl) | (apply Nat.lt_of_le_of_lt; assumption; with_unfolding_all exact Nat.le_of_ble_eq_true rfl) | ((try simp only [List.length_map, List.length_append, List.length_cons, List.length_nil, List.length_set, List.length_replicate, List.length_take, List.length_drop, List.length_reverse]); first | assumption | lia) | decide), ?_⟩) | refine add_nn ?_ | refine x_setitem ?_ | refine s_return ?_ | refine b_nil ?_ | refine b_ret ?_ | refine b_next ?_ | refine then_next ?_ | refine then_ret ?_ | (refine mul_nn ?_ ?_; (first | assumption | (with_unfolding_all exact Nat.le_of_ble_eq_true rfl) | (apply Nat.le_trans; assumption; with_unfolding_all exact Nat.le_of_ble_eq_true rfl) | (apply Nat.lt_of_le_of_lt; assumption; with_unfolding_all exact Nat.le_of_ble_eq_true rfl) | ((try simp only [List.length_map, List.length_append, List.length_cons, List.length_nil, List.length_set, List.length_replicate, List.length_take, List.length_drop, List.length_reverse]); first | assumption | lia) | decide)) | (refine mod_nn ?_ ?_; (first | assumption | (with_unfolding_all exact Nat.le_of_ble_eq_true rfl) | (apply Nat.le_trans; assumption; with_unfolding_all exact Nat.le_of_ble_eq_true rfl) | (apply Nat.lt_of_le_of_lt; assumption; with_unfolding_all exact Nat.le_of_ble_eq_true rfl) | ((try simp only [List.length_map, List.length_append, List.length_cons, List.length_nil, List.length_set, List.length_replicate, List.length_take, List.length_drop, List.length_reverse]); first | assumption | lia) | decide)) | (refine div_nn ?_ ?_ ?_; (first | assumption | (with_unfolding_all exact Nat.le_of_ble_eq_true rfl) | (apply Nat.le_trans; assumption; with_unfolding_all exact Nat.le_of_ble_eq_true rfl) | (apply Nat.lt_of_le_of_lt; assumption; with_unfolding_all exact Nat.le_of_ble_eq_true rfl) | ((try simp only [List.length_map, List.length_append, List.length_cons, List.length_nil, List.length_set, List.length_replicate, List.length_take, List.length_drop, List.length_reverse]); first | assumption | lia) | decide); (first | assumption | (with_unfolding_all exact Nat.le_of_ble_eq_true rfl) | (apply Nat.le_trans; assumption; with_unfolding_all exact Nat.le_of_ble_eq_true rfl) | (apply Nat.lt_of_le_of_lt; assumption; with_unfolding_all exact Nat.le_of_ble_eq_true rfl) | ((try simp only [List.length_map, List.length_append, List.length_cons, List.length_nil, List.length_set, List.length_replicate, List.length_take, List.length_drop, List.length_reverse]); first | assumption | lia) | decide)) | refine own_q ?_ | (refine set_dq ?_; refine ⟨_, by with_unfolding_all rfl, by (first | assumption | (with_unfolding_all exact Nat.le_of_ble_eq_true rfl) | (apply Nat.le_trans; assumption; with_unfolding_all exact Nat.le_of_ble_eq_true rfl) | (apply Nat.lt_of_le_of_lt; assumption; with_unfolding_all exact Nat.le_of_ble_eq_true rfl) | ((try simp only [List.length_map, List.length_append, List.length_cons, List.length_nil, List.length_set, List.length_replicate, List.length_take, List.length_drop, List.length_reverse]); first | assumption | lia) | decide), by (first | assumption | (with_unfolding_all exact Nat.le_of_ble_eq_true rfl) | (apply Nat.le_trans; assumption; with_unfolding_all exact Nat.le_of_ble_eq_true rfl) | (apply Nat.lt_of_le_of_lt; assumption; with_unfolding_all exact Nat.le_of_ble_eq_true rfl) | ((try simp only [List.length_map, List.length_append, List.length_cons, List.length_nil, List.length_set, List.length_replicate, List.length_take, List.length_drop, List.length_reverse]); first | assumption | lia) | decide), ?_⟩) | refine ⟨⟨_, by with_unfolding_all rfl⟩, ?_⟩)
    exact fin_val1 rfl ⟨_, nums, i, _, rfl, Nat.mod_lt _ hm, rfl, h1, h2, Nat.mod_lt _ (by decide)⟩
def Great (r : Res) (o : List (List PV)) : Prop := ∃ v nums i s, r = .val (.int (v : Nat)) ∧ v < 2 ^ 40 ∧ o = [dl nums i s] ∧ i ≤ nums.length ∧ nums.length ≤ 100 ∧ s < 2147483647
theorem law_great_ok (P : Prg K ad) {nums : List Nat} {i s : Nat} (h1 : i ≤ nums.length) (h2 : nums.length ≤ 100) (h3 : s < 2147483647) : FCall prog w K 2 (ad 32) [dl nums i s] [.int (40 : Nat)] Great := by
  refine enter (P.fn 32 (by decide)) [Nm "deal", Nm "size"] (by (intro nm q doc pm an cdv ct vals h; obtain ⟨a, b, e⟩ := len2 h; subst e; with_unfolding_all rfl)) (fun _ => rfl) (by decide) rfl [(Nm "deal", .own 0), (Nm "size", pn 40)] [some (dl nums i s)] rfl rfl ?_
  intro bs L q cd hl hc
  refine let C : Cx := _; let Z : RF → St → Prop := _; (show WB C _ _ Z from ?_)
  refine b_next ?_
  repeat (with_reducible first | (refine x_name ?_; refine ⟨_, by with_unfolding_all rfl, ?_⟩) | refine e_nat ?_ | refine l_cons ?_ | refine l_nil ?_ | refine e_call ?_ | refine x_sw2 ?_ | refine k_ref (Prg.keep (by assumption) (by decide)) ?_ | (refine e_glob (g_law_take (by assumption)) ?_))
  refine call_lent (ps := [.int (5 : Nat)]) rfl rfl (law_take_ok P h1 h2 h3 (by decide)) (Nat.le_of_ble_eq_true rfl) ?_
  rintro _ _ ⟨v, nums', i', s', rfl, hv, ho, g1, g2, g3⟩
  cases ho
  refine lift_v ?_
  repeat (with_reducible first | (refine x_name ?_; refine ⟨_, by with_unfolding_all rfl, ?_⟩) | refine e_nat ?_ | refine l_cons ?_ | refine l_nil ?_ | refine ⟨rfl, ?_⟩ | refine sto_l ?_ | refine ⟨_, rfl, ?_⟩ | refine t_cmp ?_ | refine ⟨_, _, rfl, ?_⟩ | refine s_if ?_ | refine b_if ?_ | refine lt_nn ?_)
  refine ite_d (fun h => ?_) (fun h => ?_)
  · have hv2 : v = 0 ∨ v = 1 := by lia
    rcases hv2 with rfl | rfl
    · repeat (with_reducible first | (refine x_name ?_; refine ⟨_, by with_unfolding_all rfl, ?_⟩) | refine e_nat ?_ | refine l_cons ?_ | refine l_nil ?_ | refine e_bin ?_ | refine e_sub ?_ | refine s_return ?_ | refine b_ret ?_ | (refine sub_nn ?_ ?_; (first | assumption | (with_unfolding_all exact Nat.le_of_ble_eq_true rfl) | (apply Nat.le_trans; assumption; with_unfolding_all exact Nat.le_of_ble_eq_true rfl) | (apply Nat.lt_of_le_of_lt; assumption; with_unfolding_all exact Nat.le_of_ble_eq_true rfl) | ((try simp only [List.length_map, List.length_append, List.length_cons, List.length_nil, List.length_set, List.length_replicate, List.length_take, List.length_drop, List.length_reverse]); first | assumption | lia) | decide)) | (refine div_nn ?_ ?_ ?_; (first | assumption | (with_unfolding_all exact Nat.le_of_ble_eq_true rfl) | (apply Nat.le_trans; assumption; with_unfolding_all exact Nat.le_of_ble_eq_true rfl) | (apply Nat.lt_of_le_of_lt; assumption; with_unfolding_all exact Nat.le_of_ble_eq_true rfl) | ((try simp only [List.length_map, List.length_append, List.length_cons, List.length_nil, List.length_set, List.length_replicate, List.length_take, List.length_drop, List.length_reverse]); first | assumption | lia) | decide); (first | assumption | (with_unfolding_all exact Nat.le_of_ble_eq_true rfl) | (apply Nat.le_trans; assumption; with_unfolding_all exact Nat.le_of_ble_eq_true rfl) | (apply Nat.lt_of_le_of_lt; assumption; with_unfolding_all exact Nat.le_of_ble_eq_true rfl) | ((try simp only [List.length_map, List.length_append, List.length_cons, List.length_nil, List.length_set, List.length_replicate, List.length_take, List.length_drop, List.length_reverse]); first | assumption | lia) | decide)) | (refine pow_nn ?_ ?_; (first | assumption | (with_unfolding_all exact Nat.le_of_ble_eq_true rfl) | (apply Nat.le_trans; assumption; with_unfolding_all exact Nat.le_of_ble_eq_true rfl) | (apply Nat.lt_of_le_of_lt; assumption; with_unfolding_all exact Nat.le_of_ble_eq_true rfl) | ((try simp only [List.length_map, List.length_append, List.length_cons, List.length_nil, List.length_set, List.length_replicate, List.length_take, List.length_drop, List.length_reverse]); first | assumption | lia) | decide)) | refine e_list ?_ | refine ⟨[_, _], by with_unfolding_all rfl, by (first | assumption | (with_unfolding_all exact Nat.le_of_ble_eq_true rfl) | (apply Nat.le_trans; assumption; with_unfolding_all exact Nat.le_of_ble_eq_true rfl) | (apply Nat.lt_of_le_of_lt; assumption; with_unfolding_all exact Nat.le_of_ble_eq_true rfl) | ((try simp only [List.length_map, List.length_append, List.length_cons, List.length_nil, List.length_set, List.length_replicate, List.length_take, List.length_drop, List.length_reverse]); first | assumption | lia) | decide), ?_⟩)
      refine .inl ?_
      repeat (with_reducible first | (refine x_name ?_; refine ⟨_, by with_unfolding_all rfl, ?_⟩) | (refine x_ixp ?_; refine ⟨_, _, by with_unfolding_all rfl, by with_unfolding_all rfl, by (first | assumption | (with_unfolding_all exact Nat.le_of_ble_eq_true rfl) | (apply Nat.le_trans; assumption; with_unfolding_all exact Nat.le_of_ble_eq_true rfl) | (apply Nat.lt_of_le_of_lt; assumption; with_unfolding_all exact Nat.le_of_ble_eq_true rfl) | ((try simp only [List.length_map, List.length_append, List.length_cons, List.length_nil, List.length_set, List.length_replicate, List.length_take, List.length_drop, List.length_reverse]); first | assumption | lia) | decide), ?_⟩) | refine then_ret ?_)
      exact fin_val1 rfl ⟨2 ^ 40 - 1, nums', i', s', rfl, by decide, rfl, g1, g2, g3⟩
    · repeat (with_reducible first | (refine x_name ?_; refine ⟨_, by with_unfolding_all rfl, ?_⟩) | refine e_nat ?_ | refine l_cons ?_ | refine l_nil ?_ | refine e_bin ?_ | refine e_sub ?_ | refine s_return ?_ | refine b_ret ?_ | (refine sub_nn ?_ ?_; (first | assumption | (with_unfolding_all exact Nat.le_of_ble_eq_true rfl) | (apply Nat.le_trans; assumption; with_unfolding_all exact Nat.le_of_ble_eq_true rfl) | (apply Nat.lt_of_le_of_lt; assumption; with_unfolding_all exact Nat.le_of_ble_eq_true rfl) | ((try simp only [List.length_map, List.length_append, List.length_cons, List.length_nil, List.length_set, List.length_replicate, List.length_take, List.length_drop, List.length_reverse]); first | assumption | lia) | decide)) | (refine div_nn ?_ ?_ ?_; (first | assumption | (with_unfolding_all exact Nat.le_of_ble_eq_true rfl) | (apply Nat.le_trans; assumption; with_unfolding_all exact Nat.le_of_ble_eq_true rfl) | (apply Nat.lt_of_le_of_lt; assumption; with_unfolding_all exact Nat.le_of_ble_eq_true rfl) | ((try simp only [List.length_map, List.length_append, List.length_cons, List.length_nil, List.length_set, List.length_replicate, List.length_take, List.length_drop, List.length_reverse]); first | assumption | lia) | decide); (first | assumption | (with_unfolding_all exact Nat.le_of_ble_eq_true rfl) | (apply Nat.le_trans; assumption; with_unfolding_all exact Nat.le_of_ble_eq_true rfl) | (apply Nat.lt_of_le_of_lt; assumption; with_unfolding_all exact Nat.le_of_ble_eq_true rfl) | ((try simp only [List.length_map, List.length_append, List.length_cons, List.length_nil, List.length_set, List.length_replicate, List.length_take, List.length_drop, List.length_reverse]); first | assumption | lia) | decide)) | (refine pow_nn ?_ ?_; (first | assumption | (with_unfolding_all exact Nat.le_of_ble_eq_true rfl) | (apply Nat.le_trans; assumption; with_unfolding_all exact Nat.le_of_ble_eq_true rfl) | (apply Nat.lt_of_le_of_lt; assumption; with_unfolding_all exact Nat.le_of_ble_eq_true rfl) | ((try simp only [List.length_map, List.length_append, List.length_cons, List.length_nil, List.length_set, List.length_replicate, List.length_take, List.length_drop, List.length_reverse]); first | assumption | lia) | decide)) | refine e_list ?_ | refine ⟨[_, _], by with_unfolding_all rfl, by (first | assumption | (with_unfolding_all exact Nat.le_of_ble_eq_true rfl) | (apply Nat.le_trans; assumption; with_unfolding_all exact Nat.le_of_ble_eq_true rfl) | (apply Nat.lt_of_le_of_lt; assumption; with_unfolding_all exact Nat.le_of_ble_eq_true rfl) | ((try simp only [List.length_map, List.length_append, List.length_cons, List.length_nil, List.length_set, List.length_replicate, List.length_take, List.length_drop, List.length_reverse]); first | assumption | lia) | decide), ?_⟩)
      refine .inl ?_
      repeat (with_reducible first | (refine x_name ?_; refine ⟨_, by with_unfolding_all rfl, ?_⟩) | (refine x_ixp ?_; refine ⟨_, _, by with_unfolding_all rfl, by with_unfolding_all rfl, by (first | assumption | (with_unfolding_all exact Nat.le_of_ble_eq_true rfl) | (apply Nat.le_trans; assumption; with_unfolding_all exact Nat.le_of_ble_eq_true rfl) | (apply Nat.lt_of_le_of_lt; assumption; with_unfolding_all exact Nat.le_of_ble_eq_true rfl) | ((try simp only [List.length_map, List.length_append, List.length_cons, List.length_nil, List.length_set, List.length_replicate, List.length_take, List.length_drop, List.length_reverse]); first | assumption | lia) | decide), ?_⟩) | refine then_ret ?_)
      exact fin_val1 rfl ⟨2 ^ 40 / 2, nums', i', s', rfl, by decide, rfl, g1, g2, g3⟩
  · refine b_nil (then_next (W.state [(Nm "deal", .own 0), (Nm "size", pn 40), (Nm "found", pn 0)] [some (dl nums' i' s')] ?_))
    repeat (with_reducible first | (refine x_name ?_; refine ⟨_, by with_unfolding_all rfl, ?_⟩) | refine e_nat ?_ | refine l_cons ?_ | refine l_nil ?_ | refine e_bin ?_ | refine ⟨rfl, ?_⟩ | refine ⟨_, rfl, ?_⟩ | refine add_nn ?_ | refine b_for ?_ | refine s_for ?_ | refine x_range1 ?_ | (refine div_nn ?_ ?_ ?_; (first | assumption | (with_unfolding_all exact Nat.le_of_ble_eq_true rfl) | (apply Nat.le_trans; assumption; with_unfolding_all exact Nat.le_of_ble_eq_true rfl) | (apply Nat.lt_of_le_of_lt; assumption; with_unfolding_all exact Nat.le_of_ble_eq_true rfl) | ((try simp only [List.length_map, List.length_append, List.length_cons, List.length_nil, List.length_set, List.length_replicate, List.length_take, List.length_drop, List.length_reverse]); first | assumption | lia) | decide); (first | assumption | (with_unfolding_all exact Nat.le_of_ble_eq_true rfl) | (apply Nat.le_trans; assumption; with_unfolding_all exact Nat.le_of_ble_eq_true rfl) | (apply Nat.lt_of_le_of_lt; assumption; with_unfolding_all exact Nat.le_of_ble_eq_true rfl) | ((try simp only [List.length_map, List.length_append, List.length_cons, List.length_nil, List.length_set, List.length_replicate, List.length_take, List.length_drop, List.length_reverse]); first | assumption | lia) | decide)) | refine b_range (by assumption) ?_ | refine ⟨by (first | assumption | (with_unfolding_all exact Nat.le_of_ble_eq_true rfl) | (apply Nat.le_trans; assumption; with_unfolding_all exact Nat.le_of_ble_eq_true rfl) | (apply Nat.lt_of_le_of_lt; assumption; with_unfolding_all exact Nat.le_of_ble_eq_true rfl) | ((try simp only [List.length_map, List.length_append, List.length_cons, List.length_nil, List.length_set, List.length_replicate, List.length_take, List.length_drop, List.length_reverse]); first | assumption | lia) | decide), ?_⟩)
    let I2 : Nat → St → Prop := fun j σ => ∃ f nums i s, σ = ⟨[(Nm "deal", .own 0), (Nm "size", pn 40), (Nm "found", pn f)], [some (dl nums i s)]⟩ ∧ i ≤ nums.length ∧ nums.length ≤ 100 ∧ s < 2147483647
    refine for_upto I2 ⟨0, nums', i', s', rfl, g1, g2, g3⟩ ?_ ?_ (Nat.zero_le _)
    · rintro j _ hj _ ⟨f, nums2, i2, s2, rfl, k1, k2, k3⟩ bs' _ _
      repeat (with_reducible first | (refine x_name ?_; refine ⟨_, by with_unfolding_all rfl, ?_⟩) | refine e_nat ?_ | refine l_cons ?_ | refine l_nil ?_ | refine e_bin ?_ | refine sto_l ?_ | refine e_call ?_ | refine x_assign ?_ | refine b_next ?_ | refine k_ref (Prg.keep (by assumption) (by decide)) ?_ | (refine mul_nn ?_ ?_; (first | assumption | (with_unfolding_all exact Nat.le_of_ble_eq_true rfl) | (apply Nat.le_trans; assumption; with_unfolding_all exact Nat.le_of_ble_eq_true rfl) | (apply Nat.lt_of_le_of_lt; assumption; with_unfolding_all exact Nat.le_of_ble_eq_true rfl) | ((try simp only [List.length_map, List.length_append, List.length_cons, List.length_nil, List.length_set, List.length_replicate, List.length_take, List.length_drop, List.length_reverse]); first | assumption | lia) | decide)) | refine xa_name ?_ | (refine e_glob (g_law_take (by assumption)) ?_))
      refine call_lent (ps := [.int (65536 : Nat)]) rfl rfl (law_take_ok P k1 k2 k3 (by decide)) (Nat.le_of_ble_eq_true rfl) ?_
      rintro _ _ ⟨u, nums3, i3, s3, rfl, hu, ho, l1, l2, l3⟩
      cases ho
      refine lift_v ?_
      repeat (with_reducible first | refine ⟨rfl, ?_⟩ | refine add_nn ?_ | refine b_nil ?_)
      exact loop_next (next_of ⟨_, nums3, i3, s3, rfl, l1, l2, l3⟩)
    · rintro _ ⟨f, nums2, i2, s2, rfl, k1, k2, k3⟩
      repeat (with_reducible first | (refine x_name ?_; refine ⟨_, by with_unfolding_all rfl, ?_⟩) | refine e_nat ?_ | refine e_bin ?_ | refine s_return ?_ | refine b_ret ?_ | refine then_next ?_ | refine then_ret ?_ | (refine mod_nn ?_ ?_; (first | assumption | (with_unfolding_all exact Nat.le_of_ble_eq_true rfl) | (apply Nat.le_trans; assumption; with_unfolding_all exact Nat.le_of_ble_eq_true rfl) | (apply Nat.lt_of_le_of_lt; assumption; with_unfolding_all exact Nat.le_of_ble_eq_true rfl) | ((try simp only [List.length_map, List.length_append, List.length_cons, List.length_nil, List.length_set, List.length_replicate, List.length_take, List.length_drop, List.length_reverse]); first | assumption | lia) | decide)) | (refine pow_nn ?_ ?_; (first | assumption | (with_unfolding_all exact Nat.le_of_ble_eq_true rfl) | (apply Nat.le_trans; assumption; with_unfolding_all exact Nat.le_of_ble_eq_true rfl) | (apply Nat.lt_of_le_of_lt; assumption; with_unfolding_all exact Nat.le_of_ble_eq_true rfl) | ((try simp only [List.length_map, List.length_append, List.length_cons, List.length_nil, List.length_set, List.length_replicate, List.length_take, List.length_drop, List.length_reverse]); first | assumption | lia) | decide)))
      exact fin_val1 rfl ⟨_, nums2, i2, s2, rfl, Nat.mod_lt _ (by decide), rfl, k1, k2, k3⟩
theorem law_deal_ok (P : Prg K ad) {zs : List Int} (hz : zs.length ≤ 1000000) : FCall prog w K 1 (ad 30) [] [.list (zs.map .int)] (fun r _ => ∃ nums s, r = .fresh (dl nums 0 s) ∧ nums.length ≤ 100 ∧ s < 2147483647) := by
  refine enter (P.fn 30 (by decide)) [Nm "script"] (by (intro nm q doc pm an cdv ct vals h; obtain ⟨a, e⟩ := len1 h; subst e; with_unfolding_all rfl)) (fun _ => rfl) (by decide) rfl [(Nm "script", .pv (.list (zs.map .int)))] [] rfl rfl ?_
  intro bs L q cd hl hc
  refine let C : Cx := _; let Z : RF → St → Prop := _; (show WB C _ _ Z from ?_)
  refine b_next ?_
  refine s_assign_comp ⟨rfl, .inl rfl⟩ ?_
  repeat (with_reducible first | (refine x_name ?_; refine ⟨_, by with_unfolding_all rfl, ?_⟩) | refine e_nat ?_ | refine ⟨_, rfl, ?_⟩ | refine e_slice ?_ | refine ⟨_, _, _, by with_unfolding_all rfl, by (first | assumption | (with_unfolding_all exact Nat.le_of_ble_eq_true rfl) | (apply Nat.le_trans; assumption; with_unfolding_all exact Nat.le_of_ble_eq_true rfl) | (apply Nat.lt_of_le_of_lt; assumption; with_unfolding_all exact Nat.le_of_ble_eq_true rfl) | ((try simp only [List.length_map, List.length_append, List.length_cons, List.length_nil, List.length_set, List.length_replicate, List.length_take, List.length_drop, List.length_reverse]); first | assumption | lia) | decide), ?_⟩ | refine it_list ?_ | refine x_upto ?_ | refine o_none ?_ | refine o_some ?_)
  refine .inl ?_
  repeat (with_reducible first | refine ⟨_, rfl, ?_⟩)
  refine comp_inv (g := fun z => .int (if z < 0 then -z else z)) [] (by rw [List.length_take]; lia) ?_ ?_
  · intro C0 bs' h1 h2 i x hx
    repeat (with_reducible first | (refine x_name ?_; refine ⟨_, by with_unfolding_all rfl, ?_⟩) | refine l_cons ?_ | refine l_nil ?_ | refine ⟨rfl, ?_⟩ | refine sto_l ?_ | refine e_call ?_ | refine k_bi ?_ | refine k_ty ?_ | refine f_abs ?_ | refine f_int ?_ | refine xa_name ?_ | refine b_abs (by assumption) ?_ | refine b_int (by assumption) ?_)
    exact less_of
  · obtain ⟨nums, hnu⟩ : ∃ nums, nums = (zs.take 24).map Int.natAbs := ⟨_, rfl⟩
    have e : (zs.take 24).map (fun z => PV.int (if z < 0 then -z else z)) = nums.map pnat := by
      rw [hnu, List.map_map]
      refine List.map_congr_left fun z _ => ?_
      show PV.int _ = PV.int _
      congr 1
      split <;> lia
    have hl' : nums.length ≤ 100 := by rw [hnu, List.length_map, List.length_take]; lia
    rw [e]
    refine .inl ⟨rfl, ?_⟩
    refine b_next ?_
    repeat (with_reducible first | (refine x_name ?_; refine ⟨_, by with_unfolding_all rfl, ?_⟩) | refine e_nat ?_ | refine ⟨rfl, ?_⟩ | refine sto_l ?_ | refine ⟨_, rfl, ?_⟩ | refine x_assign ?_ | refine b_for ?_ | refine s_for ?_ | refine it_list ?_)
    let I3 : Nat → St → Prop := fun j σ => ∃ s, σ = ⟨[(Nm "script", .pv (.list (zs.map .int))), (Nm "numbers", .pv (row nums)), (Nm "seed", pn s)], []⟩ ∧ s < 2147483647
    refine for_list I3 ⟨14, rfl, by decide⟩ ?_ ?_
    · rintro j x hx _ ⟨s, rfl, hs⟩ bs' _ _
      have hs60 : s < 2 ^ 60 ∨ 48271 < 2 ^ 60 := .inl (by lia)
      repeat (with_reducible first | (refine x_name ?_; refine ⟨_, by with_unfolding_all rfl, ?_⟩) | refine e_nat ?_ | refine e_bin ?_ | refine ⟨rfl, ?_⟩ | refine sto_l ?_ | refine add_nn ?_ | refine x_assign ?_ | refine b_nil ?_ | refine b_next ?_ | (refine mul_nn ?_ ?_; (first | assumption | (with_unfolding_all exact Nat.le_of_ble_eq_true rfl) | (apply Nat.le_trans; assumption; with_unfolding_all exact Nat.le_of_ble_eq_true rfl) | (apply Nat.lt_of_le_of_lt; assumption; with_unfolding_all exact Nat.le_of_ble_eq_true rfl) | ((try simp only [List.length_map, List.length_append, List.length_cons, List.length_nil, List.length_set, List.length_replicate, List.length_take, List.length_drop, List.length_reverse]); first | assumption | lia) | decide)) | (refine mod_nn ?_ ?_; (first | assumption | (with_unfolding_all exact Nat.le_of_ble_eq_true rfl) | (apply Nat.le_trans; assumption; with_unfolding_all exact Nat.le_of_ble_eq_true rfl) | (apply Nat.lt_of_le_of_lt; assumption; with_unfolding_all exact Nat.le_of_ble_eq_true rfl) | ((try simp only [List.length_map, List.length_append, List.length_cons, List.length_nil, List.length_set, List.length_replicate, List.length_take, List.length_drop, List.length_reverse]); first | assumption | lia) | decide)) | refine xa_name ?_)
      exact loop_next (next_of ⟨_, rfl, Nat.mod_lt _ (by decide)⟩)
    · rintro _ ⟨s, rfl, hs⟩
      repeat (with_reducible first | (refine x_name ?_; refine ⟨_, by with_unfolding_all rfl, ?_⟩) | refine e_nat ?_ | refine l_cons ?_ | refine l_nil ?_ | refine s_return ?_ | refine b_ret ?_ | refine then_next ?_ | refine e_list ?_ | refine ⟨[_, _, _], by with_unfolding_all rfl, by (first | assumption | (with_unfolding_all exact Nat.le_of_ble_eq_true rfl) | (apply Nat.le_trans; assumption; with_unfolding_all exact Nat.le_of_ble_eq_true rfl) | (apply Nat.lt_of_le_of_lt; assumption; with_unfolding_all exact Nat.le_of_ble_eq_true rfl) | ((try simp only [List.length_map, List.length_append, List.length_cons, List.length_nil, List.length_set, List.length_replicate, List.length_take, List.length_drop, List.length_reverse]); first | assumption | lia) | decide), ?_⟩)
      refine .inr ?_
      repeat (with_reducible first | refine then_ret ?_)
      exact fin_fresh rfl ⟨nums, s, rfl, hl', hs⟩
theorem law_value_tail (P : Prg K ad) {k n : Nat} {xs : List Nat} {bs : Base} {L : Addr} {q : Str} {cd : Value} (hk : 1 ≤ k ∧ k ≤ 20) (hB2 : 2 ^ k ≤ 2 ^ 20) (hn : xs.length ≤ 1000) (hv : val (2 ^ k) xs = n) :
    WB ⟨prog, w, K, bs, envF (scopeOf 34) q L (ad 34) cd, 0, fun _ => True⟩ (bodyOf 34).tail ⟨[(Nm "row", .pv (row xs)), (Nm "w", pn k)], []⟩ (Fin 0 fun r _ => r = .val (.int n)) := by
  refine b_next ?_
  repeat (with_reducible first | (refine x_name ?_; refine ⟨_, by with_unfolding_all rfl, ?_⟩) | refine e_nat ?_ | refine e_0m1 ?_ | refine ⟨rfl, ?_⟩ | refine sto_l ?_ | refine ⟨_, rfl, ?_⟩ | refine e_slice ?_ | refine ⟨_, _, _, by with_unfolding_all rfl, by (first | assumption | (with_unfolding_all exact Nat.le_of_ble_eq_true rfl) | (apply Nat.le_trans; assumption; with_unfolding_all exact Nat.le_of_ble_eq_true rfl) | (apply Nat.lt_of_le_of_lt; assumption; with_unfolding_all exact Nat.le_of_ble_eq_true rfl) | ((try simp only [List.length_map, List.length_append, List.length_cons, List.length_nil, List.length_set, List.length_replicate, List.length_take, List.length_drop, List.length_reverse]); first | assumption | lia) | decide), ?_⟩ | refine x_assign ?_ | refine b_for ?_ | refine s_for ?_ | refine it_list ?_ | refine x_rev ?_ | refine o_none ?_ | refine o_some ?_)
  refine .inl ?_
  repeat (with_reducible first | refine ⟨_, rfl, ?_⟩)
  let I4 : Nat → St → Prop := fun j σ => σ = ⟨[(Nm "row", .pv (row xs)), (Nm "w", pn k), (Nm "found", pn (val (2 ^ k) (xs.drop (xs.length - j))))], []⟩
  refine for_list I4 ?_ ?_ ?_
  · show _ = St.mk _ _
    rw [Nat.sub_zero, List.drop_length]; rfl
  · rintro j x hx _ rfl bs' _ _
    have hj : j < xs.length := by
      have := (List.getElem?_eq_some_iff.mp hx).1
      rwa [List.length_reverse] at this
    rw [List.getElem?_reverse hj] at hx
    have hb : val (2 ^ k) (xs.drop (xs.length - j)) < 2 ^ 60 ∨ 2 ^ k < 2 ^ 60 := .inr (by lia)
    have e : val (2 ^ k) (xs.drop (xs.length - j)) * 2 ^ k + x = val (2 ^ k) (xs.drop (xs.length - (j + 1))) := by
      rw [show xs.length - (j + 1) = xs.length - 1 - j by lia, val_drop _ hx, show xs.length - 1 - j + 1 = xs.length - j by lia, Nat.mul_comm, Nat.add_comm]
    repeat (with_reducible first | (refine x_name ?_; refine ⟨_, by with_unfolding_all rfl, ?_⟩) | refine e_nat ?_ | refine e_bin ?_ | refine ⟨rfl, ?_⟩ | refine sto_l ?_ | refine add_nn ?_ | refine x_assign ?_ | refine b_nil ?_ | refine b_next ?_ | (refine mul_nn ?_ ?_; (first | assumption | (with_unfolding_all exact Nat.le_of_ble_eq_true rfl) | (apply Nat.le_trans; assumption; with_unfolding_all exact Nat.le_of_ble_eq_true rfl) | (apply Nat.lt_of_le_of_lt; assumption; with_unfolding_all exact Nat.le_of_ble_eq_true rfl) | ((try simp only [List.length_map, List.length_append, List.length_cons, List.length_nil, List.length_set, List.length_replicate, List.length_take, List.length_drop, List.length_reverse]); first | assumption | lia) | decide)) | (refine pow_nn ?_ ?_; (first | assumption | (with_unfolding_all exact Nat.le_of_ble_eq_true rfl) | (apply Nat.le_trans; assumption; with_unfolding_all exact Nat.le_of_ble_eq_true rfl) | (apply Nat.lt_of_le_of_lt; assumption; with_unfolding_all exact Nat.le_of_ble_eq_true rfl) | ((try simp only [List.length_map, List.length_append, List.length_cons, List.length_nil, List.length_set, List.length_replicate, List.length_take, List.length_drop, List.length_reverse]); first | assumption | lia) | decide)) | refine xa_name ?_)
    rw [e]
    exact loop_next (next_of (N := fun σ => σ = _) rfl)
  · rintro _ rfl
    repeat (with_reducible first | (refine x_name ?_; refine ⟨_, by with_unfolding_all rfl, ?_⟩) | refine s_return ?_ | refine b_ret ?_ | refine then_next ?_ | refine then_ret ?_)
    refine fin_val ?_
    rw [List.length_reverse, Nat.sub_self, List.drop_zero, hv]
/-- the value of a row of limbs -/
theorem law_value_ok (P : Prg K ad) {k n : Nat} (hk : 1 ≤ k ∧ k ≤ 20) (hn : (limbs (2 ^ k) n).length ≤ 1000) : FCall prog w K 1 (ad 34) [] [row (limbs (2 ^ k) n), .int k] (fun r _ => r = .val (.int n)) := by
  have hB := two_le_pow hk.1
  have hB0 : 0 < 2 ^ k := by lia
  have hB2 : 2 ^ k ≤ 2 ^ 20 := Nat.pow_le_pow_right (by decide) hk.2
  obtain ⟨xs, hxs⟩ : ∃ xs, xs = limbs (2 ^ k) n := ⟨_, rfl⟩
  have hdx : Dig (2 ^ k) xs := hxs ▸ limbs_dig hB n
  have hv : val (2 ^ k) xs = n := hxs ▸ val_limbs hB n
  rw [← hxs]
  rw [← hxs] at hn
  refine enter (P.fn 34 (by decide)) [Nm "row", Nm "w"] (by (intro nm q doc pm an cdv ct vals h; obtain ⟨a, b, e⟩ := len2 h; subst e; with_unfolding_all rfl)) (fun _ => rfl) (by decide) rfl [(Nm "row", .pv (row xs)), (Nm "w", pn k)] [] rfl rfl ?_
  intro bs L q cd hl hc
  refine let C : Cx := _; let Z : RF → St → Prop := _; (show WB C _ _ Z from ?_)
  refine b_mid (fun σ => Less σ ⟨[(Nm "row", .pv (row xs)), (Nm "w", pn k)], []⟩) ?_ (fun σ h => W.less h (law_value_tail P hk hB2 hn hv))
  repeat (with_reducible first | refine t_cmp ?_ | refine s_if ?_ | refine t_bool ?_ | refine all_or ?_)
  refine e_comp ?_
  repeat (with_reducible first | (refine x_name ?_; refine ⟨_, by with_unfolding_all rfl, ?_⟩) | refine ⟨_, rfl, ?_⟩ | refine it_list ?_)
  refine comp_none [(Nm "w", pn k)] (by lia) ?_ ?_
  · intro C0 bs' h1 h2 i x hx
    have hxB := hdx.get hx
    repeat (with_reducible first | (refine x_name ?_; refine ⟨_, by with_unfolding_all rfl, ?_⟩) | refine e_nat ?_ | refine e_bin ?_ | refine sto_l ?_ | refine ⟨_, rfl, ?_⟩ | (refine ite_t ?_ ?_; (first | assumption | (with_unfolding_all exact Nat.le_of_ble_eq_true rfl) | (apply Nat.le_trans; assumption; with_unfolding_all exact Nat.le_of_ble_eq_true rfl) | (apply Nat.lt_of_le_of_lt; assumption; with_unfolding_all exact Nat.le_of_ble_eq_true rfl) | ((try simp only [List.length_map, List.length_append, List.length_cons, List.length_nil, List.length_set, List.length_replicate, List.length_take, List.length_drop, List.length_reverse]); first | assumption | lia) | decide)) | (refine pow_nn ?_ ?_; (first | assumption | (with_unfolding_all exact Nat.le_of_ble_eq_true rfl) | (apply Nat.le_trans; assumption; with_unfolding_all exact Nat.le_of_ble_eq_true rfl) | (apply Nat.lt_of_le_of_lt; assumption; with_unfolding_all exact Nat.le_of_ble_eq_true rfl) | ((try simp only [List.length_map, List.length_append, List.length_cons, List.length_nil, List.length_set, List.length_replicate, List.length_take, List.length_drop, List.length_reverse]); first | assumption | lia) | decide)) | refine lt_nn ?_ | refine le_nn ?_ | refine t_not ?_ | refine t_chain ?_ | refine xa_name ?_)
    exact ⟨by simp [hxB], less_of⟩
  · refine .inl ?_
    repeat (with_reducible first | refine l_nil ?_ | refine e_list ?_ | refine ⟨[], rfl, by decide, ?_⟩)
    refine .inl ?_
    repeat (with_reducible first | (refine x_name ?_; refine ⟨_, by with_unfolding_all rfl, ?_⟩) | refine l_nil ?_ | refine ⟨_, rfl, ?_⟩ | refine t_cmp ?_ | refine ite_ff ?_ | refine ne_00 ?_ | refine e_list ?_ | refine t_bool ?_ | refine all_and ?_ | refine all_or ?_ | refine ⟨[], rfl, by decide, ?_⟩)
    refine .inl ?_
    by_cases h0 : xs = []
    · repeat (with_reducible first | refine ⟨rfl, ?_⟩ | refine ⟨_, rfl, ?_⟩ | refine b_nil ?_ | refine ite_ff ?_ | (refine ite_nt ?_ ?_; (first | assumption | (with_unfolding_all exact Nat.le_of_ble_eq_true rfl) | (apply Nat.le_trans; assumption; with_unfolding_all exact Nat.le_of_ble_eq_true rfl) | (apply Nat.lt_of_le_of_lt; assumption; with_unfolding_all exact Nat.le_of_ble_eq_true rfl) | ((try simp only [List.length_map, List.length_append, List.length_cons, List.length_nil, List.length_set, List.length_replicate, List.length_take, List.length_drop, List.length_reverse]); first | assumption | lia) | decide)) | refine ne_l0 ?_ | refine all_or_nil ?_)
      exact less_of
    · obtain ⟨x, hx⟩ : ∃ x, xs.getLast? = some x := ⟨_, List.getLast?_eq_some_getLast h0⟩
      have hx0 := limbs_last hB n x (hxs ▸ hx)
      repeat (with_reducible first | (refine x_name ?_; refine ⟨_, by with_unfolding_all rfl, ?_⟩) | refine e_nat ?_ | refine ⟨rfl, ?_⟩ | refine ⟨_, rfl, ?_⟩ | refine t_cmp ?_ | refine e_sub ?_ | refine ⟨_, _, _, _, by with_unfolding_all rfl, by (first | assumption | with_unfolding_all assumption), by (first | assumption | (with_unfolding_all exact Nat.le_of_ble_eq_true rfl) | (apply Nat.le_trans; assumption; with_unfolding_all exact Nat.le_of_ble_eq_true rfl) | (apply Nat.lt_of_le_of_lt; assumption; with_unfolding_all exact Nat.le_of_ble_eq_true rfl) | ((try simp only [List.length_map, List.length_append, List.length_cons, List.length_nil, List.length_set, List.length_replicate, List.length_take, List.length_drop, List.length_reverse]); first | assumption | lia) | decide), ?_⟩ | refine b_nil ?_ | refine ite_ff ?_ | (refine ite_f ?_ ?_; (first | assumption | (with_unfolding_all exact Nat.le_of_ble_eq_true rfl) | (apply Nat.le_trans; assumption; with_unfolding_all exact Nat.le_of_ble_eq_true rfl) | (apply Nat.lt_of_le_of_lt; assumption; with_unfolding_all exact Nat.le_of_ble_eq_true rfl) | ((try simp only [List.length_map, List.length_append, List.length_cons, List.length_nil, List.length_set, List.length_replicate, List.length_take, List.length_drop, List.length_reverse]); first | assumption | lia) | decide)) | (refine ite_nf ?_ ?_; (first | assumption | (with_unfolding_all exact Nat.le_of_ble_eq_true rfl) | (apply Nat.le_trans; assumption; with_unfolding_all exact Nat.le_of_ble_eq_true rfl) | (apply Nat.lt_of_le_of_lt; assumption; with_unfolding_all exact Nat.le_of_ble_eq_true rfl) | ((try simp only [List.length_map, List.length_append, List.length_cons, List.length_nil, List.length_set, List.length_replicate, List.length_take, List.length_drop, List.length_reverse]); first | assumption | lia) | decide)) | refine eq_nn ?_ | refine ne_l0 ?_ | refine x_ixl ?_ | refine e_neg1 ?_ | refine all_and ?_ | refine all_or_nil ?_)
      exact less_of
theorem law_divisor_ok (P : Prg K ad) {k m n : Nat} (hk : 1 ≤ k ∧ k ≤ 20) (hm : m < 2 ^ 500) (hn : n < 2 ^ 500) : FCall prog w K 2 (ad 36) [] [row (limbs (2 ^ k) m), row (limbs (2 ^ k) n), .int k] (fun r _ => r = .fresh ((limbs (2 ^ k) (Nat.gcd m n)).map pnat)) := by
  have l1 := limbs_len2 hk.1 hm
  have l2 := limbs_len2 hk.1 hn
  refine enter (P.fn 36 (by decide)) [Nm "a", Nm "b", Nm "w"] (by (intro nm q doc pm an cdv ct vals h; obtain ⟨a, b, c, e⟩ := len3 h; subst e; with_unfolding_all rfl)) (fun _ => rfl) (by decide) rfl [(Nm "a", .pv (row (limbs (2 ^ k) m))), (Nm "b", .pv (row (limbs (2 ^ k) n))), (Nm "w", pn k)] [] rfl rfl ?_
  intro bs L q cd hl hc
  refine let C : Cx := _; let Z : RF → St → Prop := _; (show WB C _ _ Z from ?_)
  refine b_next ?_
  repeat (with_reducible first | (refine x_name ?_; refine ⟨_, by with_unfolding_all rfl, ?_⟩) | refine l_cons ?_ | refine l_nil ?_ | refine e_call ?_ | refine x_sw2 ?_ | refine k_ref (Prg.keep (by assumption) (by decide)) ?_ | (refine e_glob (g_law_value (by assumption)) ?_))
  refine call_v (law_value_ok P (n := m) hk (by lia)) ?_
  repeat (with_reducible first | (refine x_name ?_; refine ⟨_, by with_unfolding_all rfl, ?_⟩) | refine l_cons ?_ | refine l_nil ?_ | refine e_call ?_ | refine k_ref (Prg.keep (by assumption) (by decide)) ?_ | (refine e_glob (g_law_value (by assumption)) ?_))
  refine call_v (law_value_ok P (n := n) hk (by lia)) ?_
  repeat (with_reducible first | refine l_nil ?_ | refine ⟨rfl, ?_⟩ | refine sto_l ?_ | refine ⟨_, _, rfl, ?_⟩ | refine b_while ?_)
  refine W.state [(Nm "w", pn k), (Nm "one", pn m), (Nm "other", pn n)] [] ?_
  let I5 : Nat → St → Prop := fun y σ => ∃ x, σ = ⟨[(Nm "w", pn k), (Nm "one", pn x), (Nm "other", pn y)], []⟩ ∧ Nat.gcd x y = Nat.gcd m n ∧ x < 2 ^ 500 ∧ y < 2 ^ 500
  refine s_while I5 n ⟨m, rfl, rfl, hm, hn⟩ ?_
  rintro y _ ⟨x, rfl, hg, hx, hy⟩
  repeat (with_reducible first | (refine x_name ?_; refine ⟨_, by with_unfolding_all rfl, ?_⟩) | refine e_nat ?_ | refine ⟨_, rfl, ?_⟩ | refine t_cmp ?_ | refine gt_nn ?_)
  refine ite_d (fun h => ?_) (fun h => ?_)
  · repeat (with_reducible first | (refine x_name ?_; refine ⟨_, by with_unfolding_all rfl, ?_⟩) | refine l_cons ?_ | refine l_nil ?_ | refine e_bin ?_ | refine ⟨rfl, ?_⟩ | refine sto_l ?_ | refine e_call ?_ | refine x_sw2 ?_ | refine ⟨_, _, rfl, ?_⟩ | refine b_nil ?_ | refine b_next ?_ | refine k_ty ?_ | (refine mod_nn ?_ ?_; (first | assumption | (with_unfolding_all exact Nat.le_of_ble_eq_true rfl) | (apply Nat.le_trans; assumption; with_unfolding_all exact Nat.le_of_ble_eq_true rfl) | (apply Nat.lt_of_le_of_lt; assumption; with_unfolding_all exact Nat.le_of_ble_eq_true rfl) | ((try simp only [List.length_map, List.length_append, List.length_cons, List.length_nil, List.length_set, List.length_replicate, List.length_take, List.length_drop, List.length_reverse]); first | assumption | lia) | decide)) | refine f_int ?_ | refine b_int (by assumption) ?_)
    refine loop_next (next_of ⟨x % y, Nat.mod_lt _ h, y, rfl, ?_, hy, Nat.lt_trans (Nat.mod_lt _ h) hy⟩)
    rw [← hg, Nat.gcd_comm x y, Nat.gcd_rec y x, Nat.gcd_comm]
  · repeat (with_reducible first | (refine x_name ?_; refine ⟨_, by with_unfolding_all rfl, ?_⟩) | refine l_cons ?_ | refine l_nil ?_ | refine e_call ?_ | refine s_return ?_ | refine b_ret ?_ | refine then_next ?_ | refine k_ref (Prg.keep (by assumption) (by decide)) ?_ | (refine e_glob (g_law_row (by assumption)) ?_))
    have : y = 0 := by lia
    subst this
    rw [Nat.gcd_zero_right] at hg
    subst hg
    refine call_n (law_row_ok P (n := Nat.gcd m n) hk (by have := limbs_len2 hk.1 hx; lia)) (.inr ?_)
    repeat (with_reducible first | refine then_ret ?_)
    exact fin_fresh rfl rfl
/-- an inverse is found where there is one -/
theorem law_inverse_ok (P : Prg K ad) {k v m : Nat} (hk : 1 ≤ k ∧ k ≤ 20) (hv : v < 2 ^ 500) (hm : m < 1000) (hex : ∃ f, f < m ∧ v * f % m = 1 % m) : FCall prog w K 2 (ad 35) [] [row (limbs (2 ^ k) v), row (limbs (2 ^ k) m), .int k] (fun r _ => ∃ f, f < m ∧ v * f % m = 1 % m ∧ r = .fresh ((limbs (2 ^ k) f).map pnat)) := by
  have l1 := limbs_len2 hk.1 hv
  have l2 := limbs_len2 (k := 10) hk.1 (show m < 2 ^ 10 by lia)
  refine enter (P.fn 35 (by decide)) [Nm "a", Nm "m", Nm "w"] (by (intro nm q doc pm an cdv ct vals h; obtain ⟨a, b, c, e⟩ := len3 h; subst e; with_unfolding_all rfl)) (fun _ => rfl) (by decide) rfl [(Nm "a", .pv (row (limbs (2 ^ k) v))), (Nm "m", .pv (row (limbs (2 ^ k) m))), (Nm "w", pn k)] [] rfl rfl ?_
  intro bs L q cd hl hc
  refine let C : Cx := _; let Z : RF → St → Prop := _; (show WB C _ _ Z from ?_)
  refine b_next ?_
  repeat (with_reducible first | (refine x_name ?_; refine ⟨_, by with_unfolding_all rfl, ?_⟩) | refine l_cons ?_ | refine l_nil ?_ | refine e_call ?_ | refine x_sw2 ?_ | refine k_ref (Prg.keep (by assumption) (by decide)) ?_ | (refine e_glob (g_law_value (by assumption)) ?_))
  refine call_v (law_value_ok P (n := v) hk (by lia)) ?_
  repeat (with_reducible first | (refine x_name ?_; refine ⟨_, by with_unfolding_all rfl, ?_⟩) | refine l_cons ?_ | refine l_nil ?_ | refine e_call ?_ | refine k_ref (Prg.keep (by assumption) (by decide)) ?_ | (refine e_glob (g_law_value (by assumption)) ?_))
  refine call_v (law_value_ok P (n := m) hk (by lia)) ?_
  repeat (with_reducible first | (refine x_name ?_; refine ⟨_, by with_unfolding_all rfl, ?_⟩) | refine l_cons ?_ | refine l_nil ?_ | refine ⟨rfl, ?_⟩ | refine sto_l ?_ | refine ⟨_, rfl, ?_⟩ | refine ⟨_, _, rfl, ?_⟩ | refine b_for ?_ | refine s_for ?_ | refine x_range1 ?_ | refine b_range (by assumption) ?_ | refine ⟨by (first | assumption | (with_unfolding_all exact Nat.le_of_ble_eq_true rfl) | (apply Nat.le_trans; assumption; with_unfolding_all exact Nat.le_of_ble_eq_true rfl) | (apply Nat.lt_of_le_of_lt; assumption; with_unfolding_all exact Nat.le_of_ble_eq_true rfl) | ((try simp only [List.length_map, List.length_append, List.length_cons, List.length_nil, List.length_set, List.length_replicate, List.length_take, List.length_drop, List.length_reverse]); first | assumption | lia) | decide), ?_⟩)
  let I6 : Nat → St → Prop := fun j σ => σ = ⟨[(Nm "a", .pv (row (limbs (2 ^ k) v))), (Nm "m", .pv (row (limbs (2 ^ k) m))), (Nm "w", pn k), (Nm "modulus", pn m), (Nm "value", pn v)], []⟩ ∧ ∀ f, f < j → v * f % m ≠ 1 % m
  refine for_upto I6 ⟨rfl, fun f h => absurd h (Nat.not_lt_zero f)⟩ ?_ ?_ (Nat.zero_le _)
  · rintro j _ hj _ ⟨rfl, hno⟩ bs' _ _
    have hjs : v < 2 ^ 60 ∨ j < 2 ^ 60 := .inr (by lia)
    repeat (with_reducible first | (refine x_name ?_; refine ⟨_, by with_unfolding_all rfl, ?_⟩) | refine e_nat ?_ | refine e_bin ?_ | refine sto_l ?_ | refine ⟨_, rfl, ?_⟩ | refine t_cmp ?_ | refine s_if ?_ | refine b_if ?_ | (refine mul_nn ?_ ?_; (first | assumption | (with_unfolding_all exact Nat.le_of_ble_eq_true rfl) | (apply Nat.le_trans; assumption; with_unfolding_all exact Nat.le_of_ble_eq_true rfl) | (apply Nat.lt_of_le_of_lt; assumption; with_unfolding_all exact Nat.le_of_ble_eq_true rfl) | ((try simp only [List.length_map, List.length_append, List.length_cons, List.length_nil, List.length_set, List.length_replicate, List.length_take, List.length_drop, List.length_reverse]); first | assumption | lia) | decide)) | (refine mod_nn ?_ ?_; (first | assumption | (with_unfolding_all exact Nat.le_of_ble_eq_true rfl) | (apply Nat.le_trans; assumption; with_unfolding_all exact Nat.le_of_ble_eq_true rfl) | (apply Nat.lt_of_le_of_lt; assumption; with_unfolding_all exact Nat.le_of_ble_eq_true rfl) | ((try simp only [List.length_map, List.length_append, List.length_cons, List.length_nil, List.length_set, List.length_replicate, List.length_take, List.length_drop, List.length_reverse]); first | assumption | lia) | decide)) | refine eq_nn ?_ | refine xa_name ?_)
    refine ite_d (fun h => ?_) (fun h => ?_)
    · repeat (with_reducible first | (refine x_name ?_; refine ⟨_, by with_unfolding_all rfl, ?_⟩) | refine l_cons ?_ | refine l_nil ?_ | refine e_call ?_ | refine s_return ?_ | refine b_ret ?_ | refine k_ref (Prg.keep (by assumption) (by decide)) ?_ | (refine e_glob (g_law_row (by assumption)) ?_))
      refine call_n (law_row_ok P (n := j) hk (by have := limbs_len2 (k := 10) (n := j) hk.1 (by lia); lia)) (.inr ?_)
      repeat (with_reducible first | refine then_ret ?_ | refine loop_ret ?_)
      exact fin_fresh rfl ⟨j, hj, h, rfl⟩
    · repeat (with_reducible first | refine b_nil ?_ | refine then_next ?_)
      refine loop_next (next_of ⟨rfl, fun f hf => ?_⟩)
      rcases Nat.lt_succ_iff_lt_or_eq.mp hf with h' | h'
      · exact hno f h'
      · subst h'; exact h
  · rintro _ ⟨rfl, hno⟩
    obtain ⟨f, h1, h2⟩ := hex
    exact absurd h2 (hno f h1)
end
end CR
namespace CR
abbrev num (k n : Nat) : PV := row (limbs (2 ^ k) n)
abbrev lev (k : Nat) (ns : List Nat) : PV := .list (ns.map (num k))
def prod : List Nat → Nat
  | [] => 1
  | n :: ns => n * prod ns
theorem prod_append : ∀ ns ms, prod (ns ++ ms) = prod ns * prod ms
  | [], ms => by simp [prod]
  | n :: ns, ms => by rw [List.cons_append, prod, prod, prod_append ns ms, Nat.mul_assoc]
theorem prod_pos : ∀ {ns : List Nat}, (∀ n ∈ ns, 0 < n) → 0 < prod ns
  | [], _ => by simp [prod]
  | n :: ns, h => Nat.mul_pos (h n List.mem_cons_self) (prod_pos fun x hx => h x (List.mem_cons_of_mem _ hx))
theorem le_prod : ∀ {ns : List Nat}, (∀ n ∈ ns, 0 < n) → ∀ n ∈ ns, n ≤ prod ns
  | m :: ns, h, n, hn => by
    have hp := prod_pos fun x hx => h x (List.mem_cons_of_mem m hx)
    rcases List.mem_cons.mp hn with rfl | hn
    · exact Nat.le_mul_of_pos_right _ hp
    · exact Nat.le_trans (le_prod (fun x hx => h x (List.mem_cons_of_mem _ hx)) n hn) (Nat.le_mul_of_pos_left _ (h m List.mem_cons_self))
theorem prod_take_drop (ns : List Nat) (i : Nat) : prod (ns.take i) * prod (ns.drop i) = prod ns := by rw [← prod_append, List.take_append_drop]
/-- neighbours multiplied -/
def up : List Nat → List Nat
  | a :: b :: r => a * b :: up r
  | l => l
theorem up_get : ∀ {ns : List Nat} {j a b : Nat}, ns[2 * j]? = some a → ns[2 * j + 1]? = some b → (up ns)[j]? = some (a * b)
  | [], j, a, b, h, _ => by simp at h
  | [x], 0, a, b, _, h => by simp at h
  | [x], j + 1, a, b, h, _ => by simp [Nat.mul_add] at h
  | x :: y :: r, 0, a, b, h, h' => by
    simp at h h'
    subst h h'
    rfl
  | x :: y :: r, j + 1, a, b, h, h' => by
    rw [show 2 * (j + 1) = 2 * j + 1 + 1 by lia, List.getElem?_cons_succ, List.getElem?_cons_succ] at h
    rw [show 2 * (j + 1) + 1 = 2 * j + 1 + 1 + 1 by lia, List.getElem?_cons_succ, List.getElem?_cons_succ] at h'
    rw [up, List.getElem?_cons_succ]
    exact up_get h h'
theorem up_split : ∀ ns : List Nat, (up ns).take (ns.length / 2) ++ ns.drop (2 * (ns.length / 2)) = up ns
  | [] => rfl
  | [x] => by simp [up]
  | x :: y :: r => by
    rw [up, show (x :: y :: r).length / 2 = r.length / 2 + 1 by simp only [List.length_cons]; lia, List.take_succ_cons, show 2 * (r.length / 2 + 1) = 2 * (r.length / 2) + 1 + 1 by lia, List.drop_succ_cons, List.drop_succ_cons, List.cons_append, up_split r]
theorem up_len : ∀ ns : List Nat, (up ns).length = (ns.length + 1) / 2
  | [] => rfl
  | [x] => by simp [up]
  | x :: y :: r => by rw [up, List.length_cons, up_len r]; simp only [List.length_cons]; lia
theorem up_prod : ∀ ns : List Nat, prod (up ns) = prod ns
  | [] => rfl
  | [x] => rfl
  | x :: y :: r => by rw [up, prod, up_prod r, prod, prod, Nat.mul_assoc]
theorem up_pos : ∀ {ns : List Nat}, (∀ n ∈ ns, 0 < n) → ∀ n ∈ up ns, 0 < n
  | [], _, n, h => by simp [up] at h
  | [x], h, n, hn => h n hn
  | x :: y :: r, h, n, hn => by
    rcases List.mem_cons.mp hn with rfl | hn
    · exact Nat.mul_pos (h x (by simp)) (h y (by simp))
    · exact up_pos (fun z hz => h z (by simp [hz])) n hn
theorem up_dvd : ∀ {ns : List Nat} {i n : Nat}, ns[i]? = some n → ∃ m, (up ns)[i / 2]? = some m ∧ n ∣ m
  | [], i, n, h => by simp at h
  | [x], 0, n, h => ⟨n, by simpa [up] using h, Nat.dvd_refl n⟩
  | [x], i + 1, n, h => by simp at h
  | x :: y :: r, 0, n, h => ⟨x * y, rfl, by simp at h; subst h; exact Nat.dvd_mul_right _ _⟩
  | x :: y :: r, 1, n, h => ⟨x * y, rfl, by simp at h; subst h; exact Nat.dvd_mul_left _ _⟩
  | x :: y :: r, i + 2, n, h => by
    rw [List.getElem?_cons_succ, List.getElem?_cons_succ] at h
    obtain ⟨m, h1, h2⟩ := up_dvd h
    exact ⟨m, by rw [up, show (i + 2) / 2 = i / 2 + 1 by lia, List.getElem?_cons_succ]; exact h1, h2⟩
def tree (ns : List Nat) : List (List Nat) := if h : ns.length ≤ 1 then [ns] else ns :: tree (up ns)
termination_by ns.length
decreasing_by rw [up_len]; lia
theorem tree_small {ns : List Nat} (h : ns.length ≤ 1) : tree ns = [ns] := by rw [tree, dif_pos h]
theorem tree_big {ns : List Nat} (h : ¬ ns.length ≤ 1) : tree ns = ns :: tree (up ns) := by rw [tree, dif_neg h]
theorem tree_len : ∀ (d : Nat) (ns : List Nat), ns.length ≤ d → (tree ns).length ≤ d + 1
  | 0, ns, h => by rw [tree_small (by lia)]; simp
  | d + 1, ns, h => by
    by_cases h1 : ns.length ≤ 1
    · rw [tree_small h1]; simp
    · rw [tree_big h1, List.length_cons]
      have := tree_len d (up ns) (by rw [up_len]; lia)
      lia
theorem tree_last : ∀ (d : Nat) (ns : List Nat), ns.length ≤ d → ns ≠ [] → (tree ns).getLast? = some [prod ns]
  | 0, ns, h, h0 => absurd (List.length_eq_zero_iff.mp (by lia)) h0
  | d + 1, ns, h, h0 => by
    by_cases h1 : ns.length ≤ 1
    · rw [tree_small h1]
      match ns, h1, h0 with
      | [x], _, _ => simp [prod]
    · rw [tree_big h1]
      have hu : up ns ≠ [] := fun e => by have := up_len ns; rw [e] at this; simp at this; lia
      have := tree_last d (up ns) (by rw [up_len]; lia) hu
      rw [List.getLast?_cons, this, up_prod]; rfl
theorem tree_head (ns : List Nat) : (tree ns)[0]? = some ns := by
  by_cases h1 : ns.length ≤ 1
  · rw [tree_small h1]; rfl
  · rw [tree_big h1]; rfl
/-- each level is the one below, multiplied up -/
theorem tree_step : ∀ (d : Nat) (ns : List Nat), ns.length ≤ d → ∀ (i : Nat) l l', (tree ns)[i]? = some l → (tree ns)[i + 1]? = some l' → l' = up l ∧ 2 ≤ l.length
  | 0, ns, h, i, l, l', h1, h2 => by rw [tree_small (by lia)] at h2; simp at h2
  | d + 1, ns, h, i, l, l', h1, h2 => by
    by_cases hs : ns.length ≤ 1
    · rw [tree_small hs] at h2; simp at h2
    · rw [tree_big hs] at h1 h2
      rw [List.getElem?_cons_succ] at h2
      cases i with
      | zero =>
        simp only [List.getElem?_cons_zero, Option.some.injEq] at h1
        rw [tree_head] at h2
        subst h1
        exact ⟨(Option.some.inj h2).symm, by lia⟩
      | succ i =>
        rw [List.getElem?_cons_succ] at h1
        exact tree_step d (up ns) (by rw [up_len]; lia) i l l' h1 h2
theorem tree_all : ∀ (d : Nat) (ns : List Nat), ns.length ≤ d → (∀ n ∈ ns, 0 < n) → ∀ l ∈ tree ns, prod l = prod ns ∧ (∀ n ∈ l, 0 < n) ∧ l.length ≤ ns.length
  | 0, ns, h, hp, l, hl => by
    rw [tree_small (by lia)] at hl
    simp at hl; subst hl
    exact ⟨rfl, hp, Nat.le_refl _⟩
  | d + 1, ns, h, hp, l, hl => by
    by_cases hs : ns.length ≤ 1
    · rw [tree_small hs] at hl
      simp at hl; subst hl
      exact ⟨rfl, hp, Nat.le_refl _⟩
    · rw [tree_big hs] at hl
      rcases List.mem_cons.mp hl with rfl | hl
      · exact ⟨rfl, hp, Nat.le_refl _⟩
      · obtain ⟨e1, e2, e3⟩ := tree_all d (up ns) (by rw [up_len]; lia) (up_pos hp) l hl
        exact ⟨e1.trans (up_prod ns), e2, by rw [up_len] at e3; lia⟩
theorem tree_snoc {ns : List Nat} {ls : List (List Nat)} {l : List Nat} (h : ¬ l.length ≤ 1) (e : ls ++ tree l = tree ns) : (ls ++ [l]) ++ tree (up l) = tree ns := by
  rw [List.append_assoc, List.singleton_append, ← tree_big h]; exact e
end CR
namespace CR
open PySem PySem.W PyProof.Rows
section
variable {prog : Program} {w : World} {K : Frag} {ad : Nat → Addr}
theorem num_one {k : Nat} (hk : 1 ≤ k) : limbs (2 ^ k) 1 = [1] := limbs_one (two_le_pow hk) ⟨by decide, by have := two_le_pow hk; lia⟩
theorem product_ok (P : Prg K ad) {k : Nat} (hk : 1 ≤ k ∧ k ≤ 20) : ∀ (d : Nat) (ns : List Nat), ns.length ≤ d → d ≤ 100 → (∀ n ∈ ns, 0 < n) → prod ns < 2 ^ 200 →
    FCall prog w K (d + 3) (ad 12) [] [lev k ns, .int k, .ref (ad 22)] (fun r _ => r = .val (num k (prod ns))) := by
  intro d
  induction d with
  | zero =>
    intro ns hl _ hp hb
    have : ns = [] := List.length_eq_zero_iff.mp (by lia)
    subst this
    refine enter (P.fn 12 (by decide)) [Nm "some", Nm "w", Nm "mul"] (by (intro nm q doc pm an cdv ct vals h; obtain ⟨a, b, c, e⟩ := len3 h; subst e; with_unfolding_all rfl)) (fun _ => rfl) (by decide) rfl [(Nm "some", .pv (lev k [])), (Nm "w", pn k), (Nm "mul", .pv (.ref (ad 22)))] [] rfl rfl ?_
    intro bs L q cd hl hc
    refine let C : Cx := _; let Z : RF → St → Prop := _; (show WB C _ _ Z from ?_)
    refine b_then ?_
    repeat (with_reducible first | (refine x_name ?_; refine ⟨_, by with_unfolding_all rfl, ?_⟩) | refine e_nat ?_ | refine l_cons ?_ | refine l_nil ?_ | refine ⟨_, rfl, ?_⟩ | refine t_cmp ?_ | refine e_call ?_ | refine ⟨_, _, _, by with_unfolding_all rfl, by (first | assumption | (with_unfolding_all exact Nat.le_of_ble_eq_true rfl) | (apply Nat.le_trans; assumption; with_unfolding_all exact Nat.le_of_ble_eq_true rfl) | (apply Nat.lt_of_le_of_lt; assumption; with_unfolding_all exact Nat.le_of_ble_eq_true rfl) | ((try simp only [List.length_map, List.length_append, List.length_cons, List.length_nil, List.length_set, List.length_replicate, List.length_take, List.length_drop, List.length_reverse]); first | assumption | lia) | decide), ?_⟩ | refine s_return ?_ | refine s_if ?_ | refine b_ret ?_ | (refine ite_t ?_ ?_; (first | assumption | (with_unfolding_all exact Nat.le_of_ble_eq_true rfl) | (apply Nat.le_trans; assumption; with_unfolding_all exact Nat.le_of_ble_eq_true rfl) | (apply Nat.lt_of_le_of_lt; assumption; with_unfolding_all exact Nat.le_of_ble_eq_true rfl) | ((try simp only [List.length_map, List.length_append, List.length_cons, List.length_nil, List.length_set, List.length_replicate, List.length_take, List.length_drop, List.length_reverse]); first | assumption | lia) | decide)) | refine k_bi ?_ | refine x_len ?_ | refine eq_nn ?_ | refine e_list ?_ | refine ⟨[_], by with_unfolding_all rfl, by (first | assumption | (with_unfolding_all exact Nat.le_of_ble_eq_true rfl) | (apply Nat.le_trans; assumption; with_unfolding_all exact Nat.le_of_ble_eq_true rfl) | (apply Nat.lt_of_le_of_lt; assumption; with_unfolding_all exact Nat.le_of_ble_eq_true rfl) | ((try simp only [List.length_map, List.length_append, List.length_cons, List.length_nil, List.length_set, List.length_replicate, List.length_take, List.length_drop, List.length_reverse]); first | assumption | lia) | decide), ?_⟩ | refine b_len (by assumption) ?_)
    refine .inl ?_
    repeat (with_reducible first | refine then_ret ?_)
    refine fin_val ?_
    rw [show prod [] = 1 from rfl, num, num_one hk.1]; rfl
  | succ d ih =>
    intro ns hl hd hp hb
    refine enter (P.fn 12 (by decide)) [Nm "some", Nm "w", Nm "mul"] (by (intro nm q doc pm an cdv ct vals h; obtain ⟨a, b, c, e⟩ := len3 h; subst e; with_unfolding_all rfl)) (fun _ => rfl) (by decide) rfl [(Nm "some", .pv (lev k ns)), (Nm "w", pn k), (Nm "mul", .pv (.ref (ad 22)))] [] rfl rfl ?_
    intro bs L q cd _ hc
    refine let C : Cx := _; let Z : RF → St → Prop := _; (show WB C _ _ Z from ?_)
    refine b_then ?_
    repeat (with_reducible first | (refine x_name ?_; refine ⟨_, by with_unfolding_all rfl, ?_⟩) | refine e_nat ?_ | refine l_cons ?_ | refine l_nil ?_ | refine ⟨_, rfl, ?_⟩ | refine t_cmp ?_ | refine e_call ?_ | refine ⟨_, _, _, by with_unfolding_all rfl, by (first | assumption | (with_unfolding_all exact Nat.le_of_ble_eq_true rfl) | (apply Nat.le_trans; assumption; with_unfolding_all exact Nat.le_of_ble_eq_true rfl) | (apply Nat.lt_of_le_of_lt; assumption; with_unfolding_all exact Nat.le_of_ble_eq_true rfl) | ((try simp only [List.length_map, List.length_append, List.length_cons, List.length_nil, List.length_set, List.length_replicate, List.length_take, List.length_drop, List.length_reverse]); first | assumption | lia) | decide), ?_⟩ | refine s_if ?_ | refine k_bi ?_ | refine x_len ?_ | refine eq_nn ?_ | refine b_len (by assumption) ?_)
    refine ite_d (fun h0 => ?_) (fun h0 => ?_)
    · have : ns = [] := List.length_eq_zero_iff.mp h0
      subst this
      repeat (with_reducible first | refine e_nat ?_ | refine l_cons ?_ | refine l_nil ?_ | refine s_return ?_ | refine b_ret ?_ | refine e_list ?_ | refine ⟨[_], by with_unfolding_all rfl, by (first | assumption | (with_unfolding_all exact Nat.le_of_ble_eq_true rfl) | (apply Nat.le_trans; assumption; with_unfolding_all exact Nat.le_of_ble_eq_true rfl) | (apply Nat.lt_of_le_of_lt; assumption; with_unfolding_all exact Nat.le_of_ble_eq_true rfl) | ((try simp only [List.length_map, List.length_append, List.length_cons, List.length_nil, List.length_set, List.length_replicate, List.length_take, List.length_drop, List.length_reverse]); first | assumption | lia) | decide), ?_⟩)
      refine .inl ?_
      repeat (with_reducible first | refine then_ret ?_)
      refine fin_val ?_
      rw [show prod [] = 1 from rfl, num, num_one hk.1]; rfl
    · repeat (with_reducible first | (refine x_name ?_; refine ⟨_, by with_unfolding_all rfl, ?_⟩) | refine e_nat ?_ | refine l_cons ?_ | refine l_nil ?_ | refine ⟨_, rfl, ?_⟩ | refine t_cmp ?_ | refine e_call ?_ | refine ⟨_, _, _, by with_unfolding_all rfl, by (first | assumption | (with_unfolding_all exact Nat.le_of_ble_eq_true rfl) | (apply Nat.le_trans; assumption; with_unfolding_all exact Nat.le_of_ble_eq_true rfl) | (apply Nat.lt_of_le_of_lt; assumption; with_unfolding_all exact Nat.le_of_ble_eq_true rfl) | ((try simp only [List.length_map, List.length_append, List.length_cons, List.length_nil, List.length_set, List.length_replicate, List.length_take, List.length_drop, List.length_reverse]); first | assumption | lia) | decide), ?_⟩ | refine s_if ?_ | refine b_nil ?_ | refine b_if ?_ | refine then_next ?_ | refine k_bi ?_ | refine x_len ?_ | refine eq_nn ?_ | refine b_len (by assumption) ?_)
      refine ite_d (fun h1 => ?_) (fun h1 => ?_)
      · obtain ⟨x, hx⟩ : ∃ x, ns[0]? = some x := ⟨_, List.getElem?_eq_getElem (by lia)⟩
        repeat (with_reducible first | (refine x_name ?_; refine ⟨_, by with_unfolding_all rfl, ?_⟩) | refine e_nat ?_ | refine e_sub ?_ | refine x_ix ?_ | refine ⟨_, _, _, _, by with_unfolding_all rfl, by (first | assumption | with_unfolding_all assumption), by (first | assumption | (with_unfolding_all exact Nat.le_of_ble_eq_true rfl) | (apply Nat.le_trans; assumption; with_unfolding_all exact Nat.le_of_ble_eq_true rfl) | (apply Nat.lt_of_le_of_lt; assumption; with_unfolding_all exact Nat.le_of_ble_eq_true rfl) | ((try simp only [List.length_map, List.length_append, List.length_cons, List.length_nil, List.length_set, List.length_replicate, List.length_take, List.length_drop, List.length_reverse]); first | assumption | lia) | decide), ?_⟩ | refine s_return ?_ | refine b_ret ?_ | refine then_ret ?_)
        refine fin_val ?_
        obtain ⟨y, rfl⟩ := List.length_eq_one_iff.mp h1
        simp only [List.getElem?_cons_zero, Option.some.injEq] at hx
        subst hx
        rw [prod, prod, Nat.mul_one]
      · have hsp := prod_take_drop ns (ns.length / 2)
        have hp1 : ∀ n ∈ ns.take (ns.length / 2), 0 < n := fun n hn => hp n (List.mem_of_mem_take hn)
        have hp2 : ∀ n ∈ ns.drop (ns.length / 2), 0 < n := fun n hn => hp n (List.mem_of_mem_drop hn)
        have hb1 : prod (ns.take (ns.length / 2)) < 2 ^ 200 := Nat.lt_of_le_of_lt (Nat.le_mul_of_pos_right _ (prod_pos hp2)) (by rw [hsp]; exact hb)
        have hb2 : prod (ns.drop (ns.length / 2)) < 2 ^ 200 := Nat.lt_of_le_of_lt (Nat.le_mul_of_pos_left _ (prod_pos hp1)) (by rw [hsp]; exact hb)
        have l1 := limbs_len2 hk.1 hb1
        have l2 := limbs_len2 hk.1 hb2
        repeat (with_reducible first | (refine x_name ?_; refine ⟨_, by with_unfolding_all rfl, ?_⟩) | refine e_nat ?_ | refine l_cons ?_ | refine l_nil ?_ | refine e_bin ?_ | refine ⟨rfl, ?_⟩ | refine sto_l ?_ | refine ⟨_, rfl, ?_⟩ | refine e_slice ?_ | refine e_call ?_ | refine ⟨_, _, _, by with_unfolding_all rfl, by (first | assumption | (with_unfolding_all exact Nat.le_of_ble_eq_true rfl) | (apply Nat.le_trans; assumption; with_unfolding_all exact Nat.le_of_ble_eq_true rfl) | (apply Nat.lt_of_le_of_lt; assumption; with_unfolding_all exact Nat.le_of_ble_eq_true rfl) | ((try simp only [List.length_map, List.length_append, List.length_cons, List.length_nil, List.length_set, List.length_replicate, List.length_take, List.length_drop, List.length_reverse]); first | assumption | lia) | decide), ?_⟩ | refine x_assign ?_ | refine s_return ?_ | refine b_nil ?_ | refine b_ret ?_ | refine b_next ?_ | refine then_next ?_ | refine k_ref (Prg.keep (by assumption) (by decide)) ?_ | refine k_bi ?_ | refine x_len ?_ | (refine div_nn ?_ ?_ ?_; (first | assumption | (with_unfolding_all exact Nat.le_of_ble_eq_true rfl) | (apply Nat.le_trans; assumption; with_unfolding_all exact Nat.le_of_ble_eq_true rfl) | (apply Nat.lt_of_le_of_lt; assumption; with_unfolding_all exact Nat.le_of_ble_eq_true rfl) | ((try simp only [List.length_map, List.length_append, List.length_cons, List.length_nil, List.length_set, List.length_replicate, List.length_take, List.length_drop, List.length_reverse]); first | assumption | lia) | decide); (first | assumption | (with_unfolding_all exact Nat.le_of_ble_eq_true rfl) | (apply Nat.le_trans; assumption; with_unfolding_all exact Nat.le_of_ble_eq_true rfl) | (apply Nat.lt_of_le_of_lt; assumption; with_unfolding_all exact Nat.le_of_ble_eq_true rfl) | ((try simp only [List.length_map, List.length_append, List.length_cons, List.length_nil, List.length_set, List.length_replicate, List.length_take, List.length_drop, List.length_reverse]); first | assumption | lia) | decide)) | refine x_upto ?_ | refine o_none ?_ | refine o_some ?_ | refine b_len (by assumption) ?_ | (refine e_glob (g_product (by assumption)) ?_))
        refine .inl ?_
        repeat (with_reducible first | (refine x_name ?_; refine ⟨_, by with_unfolding_all rfl, ?_⟩) | refine l_cons ?_ | refine l_nil ?_)
        refine call_f (ps := [lev k (ns.take (ns.length / 2)), .int k, .ref (ad 22)]) rfl (ih (ns.take (ns.length / 2)) (by rw [List.length_take]; lia) (by lia) hp1 hb1) (Nat.le_refl _) ?_
        rintro _ rfl
        refine lift_v ?_
        repeat (with_reducible first | (refine x_name ?_; refine ⟨_, by with_unfolding_all rfl, ?_⟩) | refine l_cons ?_ | refine ⟨_, rfl, ?_⟩ | refine e_slice ?_ | refine e_call ?_ | refine ⟨_, _, _, by with_unfolding_all rfl, by (first | assumption | (with_unfolding_all exact Nat.le_of_ble_eq_true rfl) | (apply Nat.le_trans; assumption; with_unfolding_all exact Nat.le_of_ble_eq_true rfl) | (apply Nat.lt_of_le_of_lt; assumption; with_unfolding_all exact Nat.le_of_ble_eq_true rfl) | ((try simp only [List.length_map, List.length_append, List.length_cons, List.length_nil, List.length_set, List.length_replicate, List.length_take, List.length_drop, List.length_reverse]); first | assumption | lia) | decide), ?_⟩ | refine k_ref (Prg.keep (by assumption) (by decide)) ?_ | refine x_from ?_ | refine o_none ?_ | refine o_some ?_ | (refine e_glob (g_product (by assumption)) ?_))
        refine .inl ?_
        repeat (with_reducible first | (refine x_name ?_; refine ⟨_, by with_unfolding_all rfl, ?_⟩) | refine l_cons ?_ | refine l_nil ?_)
        refine call_f (ps := [lev k (ns.drop (ns.length / 2)), .int k, .ref (ad 22)]) rfl (ih (ns.drop (ns.length / 2)) (by rw [List.length_drop]; lia) (by lia) hp2 hb2) (Nat.le_refl _) ?_
        rintro _ rfl
        refine lift_v ?_
        repeat (with_reducible first | (refine x_name ?_; refine ⟨_, by with_unfolding_all rfl, ?_⟩) | refine l_cons ?_ | refine l_nil ?_)
        refine call_v (mul_school_ok P (m := prod (ns.take (ns.length / 2))) (n := prod (ns.drop (ns.length / 2))) hk (by lia) (by lia)) ?_
        repeat (with_reducible first | refine then_ret ?_)
        refine fin_val ?_
        rw [hsp]
theorem level_above_ok (P : Prg K ad) {k : Nat} (hk : 1 ≤ k ∧ k ≤ 20) (ns : List Nat) (hl : 1 ≤ ns.length ∧ ns.length ≤ 100) (hb : ∀ n ∈ ns, n < 2 ^ 200) :
    FCall prog w K 3 (ad 13) [] [lev k ns, .int k, .ref (ad 22)] (fun r _ => r = .fresh ((up ns).map (num k))) := by
  refine enter (P.fn 13 (by decide)) [Nm "level", Nm "w", Nm "mul"] (by (intro nm q doc pm an cdv ct vals h; obtain ⟨a, b, c, e⟩ := len3 h; subst e; with_unfolding_all rfl)) (fun _ => rfl) (by decide) rfl [(Nm "level", .pv (lev k ns)), (Nm "w", pn k), (Nm "mul", .pv (.ref (ad 22)))] [] rfl rfl ?_
  intro bs L q cd _ hc
  refine let C : Cx := _; let Z : RF → St → Prop := _; (show WB C _ _ Z from ?_)
  refine b_next ?_
  repeat (with_reducible first | refine l_nil ?_ | refine sto_l ?_ | refine x_assign ?_ | refine e_list ?_ | refine ⟨[], rfl, by decide, ?_⟩)
  refine .inr ?_
  repeat (with_reducible first | (refine x_name ?_; refine ⟨_, by with_unfolding_all rfl, ?_⟩) | refine e_nat ?_ | refine l_cons ?_ | refine l_nil ?_ | refine e_bin ?_ | refine ⟨rfl, ?_⟩ | refine ⟨_, rfl, ?_⟩ | refine e_call ?_ | refine ⟨_, _, _, by with_unfolding_all rfl, by (first | assumption | (with_unfolding_all exact Nat.le_of_ble_eq_true rfl) | (apply Nat.le_trans; assumption; with_unfolding_all exact Nat.le_of_ble_eq_true rfl) | (apply Nat.lt_of_le_of_lt; assumption; with_unfolding_all exact Nat.le_of_ble_eq_true rfl) | ((try simp only [List.length_map, List.length_append, List.length_cons, List.length_nil, List.length_set, List.length_replicate, List.length_take, List.length_drop, List.length_reverse]); first | assumption | lia) | decide), ?_⟩ | refine b_for ?_ | refine s_for ?_ | refine x_range_by2 ?_ | refine k_bi ?_ | refine x_len ?_ | (refine sub_nn ?_ ?_; (first | assumption | (with_unfolding_all exact Nat.le_of_ble_eq_true rfl) | (apply Nat.le_trans; assumption; with_unfolding_all exact Nat.le_of_ble_eq_true rfl) | (apply Nat.lt_of_le_of_lt; assumption; with_unfolding_all exact Nat.le_of_ble_eq_true rfl) | ((try simp only [List.length_map, List.length_append, List.length_cons, List.length_nil, List.length_set, List.length_replicate, List.length_take, List.length_drop, List.length_reverse]); first | assumption | lia) | decide)) | refine b_len (by assumption) ?_ | refine b_range (by assumption) ?_ | refine ⟨by (first | assumption | (with_unfolding_all exact Nat.le_of_ble_eq_true rfl) | (apply Nat.le_trans; assumption; with_unfolding_all exact Nat.le_of_ble_eq_true rfl) | (apply Nat.lt_of_le_of_lt; assumption; with_unfolding_all exact Nat.le_of_ble_eq_true rfl) | ((try simp only [List.length_map, List.length_append, List.length_cons, List.length_nil, List.length_set, List.length_replicate, List.length_take, List.length_drop, List.length_reverse]); first | assumption | lia) | decide), ?_⟩)
  have hul := up_len ns
  let I1 : Nat → St → Prop := fun j σ => σ = ⟨[(Nm "level", .pv (lev k ns)), (Nm "w", pn k), (Nm "mul", .pv (.ref (ad 22))), (Nm "found", .own 0)], [some (((up ns).take j).map (num k))]⟩
  refine for_by2 I1 rfl ?_ ?_
  · rintro j hj _ rfl bs' _ _
    obtain ⟨a, ha⟩ : ∃ a, ns[2 * j]? = some a := ⟨_, List.getElem?_eq_getElem (by lia)⟩
    obtain ⟨b, hb'⟩ : ∃ b, ns[2 * j + 1]? = some b := ⟨_, List.getElem?_eq_getElem (by lia)⟩
    have l1 := limbs_len2 hk.1 (hb a (List.mem_of_getElem? ha))
    have l2 := limbs_len2 hk.1 (hb b (List.mem_of_getElem? hb'))
    have hu := up_get ha hb'
    repeat (with_reducible first | (refine x_name ?_; refine ⟨_, by with_unfolding_all rfl, ?_⟩) | refine e_nat ?_ | refine l_cons ?_ | refine l_nil ?_ | refine e_bin ?_ | refine sto_l ?_ | refine e_sub ?_ | refine e_call ?_ | refine x_ix ?_ | refine add_nn ?_ | refine ⟨_, _, _, _, by with_unfolding_all rfl, by (first | assumption | with_unfolding_all assumption), by (first | assumption | (with_unfolding_all exact Nat.le_of_ble_eq_true rfl) | (apply Nat.le_trans; assumption; with_unfolding_all exact Nat.le_of_ble_eq_true rfl) | (apply Nat.lt_of_le_of_lt; assumption; with_unfolding_all exact Nat.le_of_ble_eq_true rfl) | ((try simp only [List.length_map, List.length_append, List.length_cons, List.length_nil, List.length_set, List.length_replicate, List.length_take, List.length_drop, List.length_reverse]); first | assumption | lia) | decide), ?_⟩ | refine s_expr ?_ | refine b_next ?_ | refine k_ref (Prg.keep (by assumption) (by decide)) ?_ | refine x_append ?_ | refine own_q ?_ | refine ⟨⟨_, by with_unfolding_all rfl⟩, ?_⟩ | refine xa_name ?_)
    refine call_v (mul_school_ok P (m := a) (n := b) hk (by lia) (by lia)) ?_
    skip
    refine push_f (num k) rfl (by rw [List.length_take]; lia) ?_
    repeat (with_reducible first | refine ⟨rfl, ?_⟩ | refine b_nil ?_)
    refine loop_next (next_of (N := fun σ => σ = _) rfl (hO := ?_))
    rw [List.take_add_one, hu]; rfl
  · rintro _ rfl
    have e : (ns.length - 1 + 1) / 2 = ns.length / 2 := by lia
    rw [e]
    have hfl : ((up ns).take (ns.length / 2)).length = ns.length / 2 := by rw [List.length_take]; lia
    repeat (with_reducible first | (refine x_name ?_; refine ⟨_, by with_unfolding_all rfl, ?_⟩) | refine e_nat ?_ | refine l_cons ?_ | refine l_nil ?_ | refine e_bin ?_ | refine ⟨_, rfl, ?_⟩ | refine e_slice ?_ | refine e_call ?_ | refine ⟨_, _, _, by with_unfolding_all rfl, by (first | assumption | (with_unfolding_all exact Nat.le_of_ble_eq_true rfl) | (apply Nat.le_trans; assumption; with_unfolding_all exact Nat.le_of_ble_eq_true rfl) | (apply Nat.lt_of_le_of_lt; assumption; with_unfolding_all exact Nat.le_of_ble_eq_true rfl) | ((try simp only [List.length_map, List.length_append, List.length_cons, List.length_nil, List.length_set, List.length_replicate, List.length_take, List.length_drop, List.length_reverse]); first | assumption | lia) | decide), ?_⟩ | refine s_return ?_ | refine b_ret ?_ | refine then_next ?_ | refine k_bi ?_ | refine x_len ?_ | (refine mul_nn ?_ ?_; (first | assumption | (with_unfolding_all exact Nat.le_of_ble_eq_true rfl) | (apply Nat.le_trans; assumption; with_unfolding_all exact Nat.le_of_ble_eq_true rfl) | (apply Nat.lt_of_le_of_lt; assumption; with_unfolding_all exact Nat.le_of_ble_eq_true rfl) | ((try simp only [List.length_map, List.length_append, List.length_cons, List.length_nil, List.length_set, List.length_replicate, List.length_take, List.length_drop, List.length_reverse]); first | assumption | lia) | decide)) | refine x_from ?_ | refine o_none ?_ | refine o_some ?_ | refine b_len (by assumption) ?_)
    refine .inl ?_
    repeat (with_reducible first | refine x_addl ?_ | refine ⟨_, _, _, _, by with_unfolding_all rfl, by with_unfolding_all rfl, by (first | assumption | (with_unfolding_all exact Nat.le_of_ble_eq_true rfl) | (apply Nat.le_trans; assumption; with_unfolding_all exact Nat.le_of_ble_eq_true rfl) | (apply Nat.lt_of_le_of_lt; assumption; with_unfolding_all exact Nat.le_of_ble_eq_true rfl) | ((try simp only [List.length_map, List.length_append, List.length_cons, List.length_nil, List.length_set, List.length_replicate, List.length_take, List.length_drop, List.length_reverse]); first | assumption | lia) | decide), ?_⟩)
    refine .inr ?_
    repeat (with_reducible first | refine then_ret ?_)
    refine fin_fresh rfl ?_
    rw [hfl, Nat.mul_comm, up_split]
theorem product_tree_ok (P : Prg K ad) {k : Nat} (hk : 1 ≤ k ∧ k ≤ 20) (ns : List Nat) (hl : ns.length ≤ 100) (hp : ∀ n ∈ ns, 0 < n) (hb : prod ns < 2 ^ 200) :
    FCall prog w K 4 (ad 14) [] [lev k ns, .int k, .ref (ad 22)] (fun r _ => r = .fresh ((tree ns).map (lev k))) := by
  refine enter (P.fn 14 (by decide)) [Nm "some", Nm "w", Nm "mul"] (by (intro nm q doc pm an cdv ct vals h; obtain ⟨a, b, c, e⟩ := len3 h; subst e; with_unfolding_all rfl)) (fun _ => rfl) (by decide) rfl [(Nm "some", .pv (lev k ns)), (Nm "w", pn k), (Nm "mul", .pv (.ref (ad 22)))] [] rfl rfl ?_
  intro bs L q cd _ hc
  refine let C : Cx := _; let Z : RF → St → Prop := _; (show WB C _ _ Z from ?_)
  refine b_next ?_
  repeat (with_reducible first | (refine x_name ?_; refine ⟨_, by with_unfolding_all rfl, ?_⟩) | refine l_cons ?_ | refine sto_l ?_ | refine e_slice ?_ | refine ⟨_, _, _, by with_unfolding_all rfl, by (first | assumption | (with_unfolding_all exact Nat.le_of_ble_eq_true rfl) | (apply Nat.le_trans; assumption; with_unfolding_all exact Nat.le_of_ble_eq_true rfl) | (apply Nat.lt_of_le_of_lt; assumption; with_unfolding_all exact Nat.le_of_ble_eq_true rfl) | ((try simp only [List.length_map, List.length_append, List.length_cons, List.length_nil, List.length_set, List.length_replicate, List.length_take, List.length_drop, List.length_reverse]); first | assumption | lia) | decide), ?_⟩ | refine x_assign ?_ | refine x_all ?_ | refine o_none ?_ | refine e_list ?_)
  refine .inl ?_
  repeat (with_reducible first | refine l_nil ?_ | refine ⟨[_], by with_unfolding_all rfl, by (first | assumption | (with_unfolding_all exact Nat.le_of_ble_eq_true rfl) | (apply Nat.le_trans; assumption; with_unfolding_all exact Nat.le_of_ble_eq_true rfl) | (apply Nat.lt_of_le_of_lt; assumption; with_unfolding_all exact Nat.le_of_ble_eq_true rfl) | ((try simp only [List.length_map, List.length_append, List.length_cons, List.length_nil, List.length_set, List.length_replicate, List.length_take, List.length_drop, List.length_reverse]); first | assumption | lia) | decide), ?_⟩)
  refine .inr ?_
  repeat (with_reducible first | refine ⟨rfl, ?_⟩ | refine b_while ?_)
  let I2 : Nat → St → Prop := fun x σ => ∃ ls l, σ = ⟨[(Nm "some", .pv (lev k ns)), (Nm "w", pn k), (Nm "mul", .pv (.ref (ad 22))), (Nm "levels", .own 0)], [some ((ls ++ [l]).map (lev k))]⟩ ∧ ls ++ tree l = tree ns ∧ l.length = x
  refine s_while I2 ns.length ⟨[], ns, rfl, rfl, rfl⟩ ?_
  rintro x _ ⟨ls, l, rfl, ht, rfl⟩
  have hmem : l ∈ tree ns := by
    rw [← ht]
    exact List.mem_append_right _ (List.mem_of_getElem? (tree_head l))
  obtain ⟨e1, e2, e3⟩ := tree_all ns.length ns (Nat.le_refl _) hp l hmem
  have hlast : (ls ++ [l]).getLast? = some l := by simp
  have hlls : ls.length ≤ 101 := by
    have h1 := tree_len ns.length ns (Nat.le_refl _)
    rw [← ht, List.length_append] at h1; lia
  repeat (with_reducible first | (refine x_name ?_; refine ⟨_, by with_unfolding_all rfl, ?_⟩) | refine e_nat ?_ | refine l_cons ?_ | refine l_nil ?_ | refine ⟨_, rfl, ?_⟩ | refine t_cmp ?_ | refine e_sub ?_ | refine e_call ?_ | refine ⟨_, _, _, _, by with_unfolding_all rfl, by (first | assumption | with_unfolding_all assumption), by (first | assumption | (with_unfolding_all exact Nat.le_of_ble_eq_true rfl) | (apply Nat.le_trans; assumption; with_unfolding_all exact Nat.le_of_ble_eq_true rfl) | (apply Nat.lt_of_le_of_lt; assumption; with_unfolding_all exact Nat.le_of_ble_eq_true rfl) | ((try simp only [List.length_map, List.length_append, List.length_cons, List.length_nil, List.length_set, List.length_replicate, List.length_take, List.length_drop, List.length_reverse]); first | assumption | lia) | decide), ?_⟩ | refine ⟨_, _, _, by with_unfolding_all rfl, by (first | assumption | (with_unfolding_all exact Nat.le_of_ble_eq_true rfl) | (apply Nat.le_trans; assumption; with_unfolding_all exact Nat.le_of_ble_eq_true rfl) | (apply Nat.lt_of_le_of_lt; assumption; with_unfolding_all exact Nat.le_of_ble_eq_true rfl) | ((try simp only [List.length_map, List.length_append, List.length_cons, List.length_nil, List.length_set, List.length_replicate, List.length_take, List.length_drop, List.length_reverse]); first | assumption | lia) | decide), ?_⟩ | refine k_bi ?_ | refine x_len ?_ | refine gt_nn ?_ | refine x_ixl ?_ | refine e_neg1 ?_ | refine b_len (by assumption) ?_)
  refine ite_d (fun h => ?_) (fun h => ?_)
  · repeat (with_reducible first | (refine x_name ?_; refine ⟨_, by with_unfolding_all rfl, ?_⟩) | refine l_cons ?_ | refine l_nil ?_ | refine e_sub ?_ | refine e_call ?_ | refine ⟨_, _, _, _, by with_unfolding_all rfl, by (first | assumption | with_unfolding_all assumption), by (first | assumption | (with_unfolding_all exact Nat.le_of_ble_eq_true rfl) | (apply Nat.le_trans; assumption; with_unfolding_all exact Nat.le_of_ble_eq_true rfl) | (apply Nat.lt_of_le_of_lt; assumption; with_unfolding_all exact Nat.le_of_ble_eq_true rfl) | ((try simp only [List.length_map, List.length_append, List.length_cons, List.length_nil, List.length_set, List.length_replicate, List.length_take, List.length_drop, List.length_reverse]); first | assumption | lia) | decide), ?_⟩ | refine s_expr ?_ | refine b_next ?_ | refine k_ref (Prg.keep (by assumption) (by decide)) ?_ | refine x_ixl ?_ | refine e_neg1 ?_ | refine x_append ?_ | refine own_q ?_ | refine ⟨⟨_, by with_unfolding_all rfl⟩, ?_⟩ | (refine e_glob (g_level_above (by assumption)) ?_))
    refine call_n (level_above_ok P hk l (by lia) (fun n hn => Nat.lt_of_le_of_lt (le_prod e2 n hn) (by rw [e1]; exact hb))) (.inl ?_)
    skip
    refine push_f (lev k) rfl (by simp; lia) ?_
    repeat (with_reducible first | refine ⟨rfl, ?_⟩ | refine b_nil ?_)
    exact loop_next (next_of ⟨(up l).length, by rw [up_len]; lia, ls ++ [l], up l, rfl, tree_snoc (by lia) ht, rfl⟩)
  · repeat (with_reducible first | (refine x_name ?_; refine ⟨_, by with_unfolding_all rfl, ?_⟩) | refine s_return ?_ | refine b_ret ?_ | refine then_next ?_ | refine then_ret ?_)
    refine fin_fresh rfl ?_
    rw [← ht, tree_small (by lia)]
end
end CR
namespace CR
/-- crossed sums, one level up -/
def cr : List Nat → List Nat → List Nat
  | s0 :: s1 :: ss, l0 :: l1 :: ls => (s0 * l1 + s1 * l0) :: cr ss ls
  | ss, _ => ss
def cs : List Nat → List Nat → Nat
  | s :: ss, m :: ms => s * prod ms + m * cs ss ms
  | _, _ => 0
theorem cr_cs : ∀ (ss ls : List Nat), ss.length = ls.length → cs (cr ss ls) (up ls) = cs ss ls
  | [], [], _ => rfl
  | [s], [l], _ => rfl
  | s0 :: s1 :: ss, l0 :: l1 :: ls, h => by
    rw [cr, up, cs, cs, cs, cr_cs ss ls (by simpa using h), up_prod, prod]
    rw [Nat.add_mul, Nat.mul_add l0, Nat.mul_assoc, Nat.mul_assoc, Nat.mul_assoc, Nat.mul_left_comm s1]
    lia
theorem cr_len : ∀ (ss ls : List Nat), ss.length = ls.length → (cr ss ls).length = (up ls).length
  | [], [], _ => rfl
  | [s], [l], _ => rfl
  | s0 :: s1 :: ss, l0 :: l1 :: ls, h => by rw [cr, up, List.length_cons, List.length_cons, cr_len ss ls (by simpa using h)]
theorem cr_get : ∀ {ss ls : List Nat} {j a b c d : Nat}, ss[2 * j]? = some a → ss[2 * j + 1]? = some b → ls[2 * j]? = some c → ls[2 * j + 1]? = some d → (cr ss ls)[j]? = some (a * d + b * c)
  | [], ls, j, a, b, c, d, h, _, _, _ => by simp at h
  | [x], ls, 0, a, b, c, d, _, h, _, _ => by simp at h
  | [x], ls, j + 1, a, b, c, d, h, _, _, _ => by simp [Nat.mul_add] at h
  | x :: y :: r, [], j, a, b, c, d, _, _, h, _ => by simp at h
  | x :: y :: r, [z], 0, a, b, c, d, _, _, _, h => by simp at h
  | x :: y :: r, [z], j + 1, a, b, c, d, _, _, h, _ => by simp [Nat.mul_add] at h
  | x :: y :: r, u :: v :: t, 0, a, b, c, d, h1, h2, h3, h4 => by
    simp at h1 h2 h3 h4
    subst h1 h2 h3 h4
    rfl
  | x :: y :: r, u :: v :: t, j + 1, a, b, c, d, h1, h2, h3, h4 => by
    rw [show 2 * (j + 1) = 2 * j + 1 + 1 by lia, List.getElem?_cons_succ, List.getElem?_cons_succ] at h1 h3
    rw [show 2 * (j + 1) + 1 = 2 * j + 1 + 1 + 1 by lia, List.getElem?_cons_succ, List.getElem?_cons_succ] at h2 h4
    rw [cr, List.getElem?_cons_succ]
    exact cr_get h1 h2 h3 h4
theorem cr_split : ∀ (ss ls : List Nat), ss.length = ls.length → (cr ss ls).take (ss.length / 2) ++ ss.drop (2 * (ss.length / 2)) = cr ss ls
  | [], [], _ => rfl
  | [s], [l], _ => by simp [cr]
  | s0 :: s1 :: ss, l0 :: l1 :: ls, h => by
    rw [cr, show (s0 :: s1 :: ss).length / 2 = ss.length / 2 + 1 by simp only [List.length_cons]; lia, List.take_succ_cons, show 2 * (ss.length / 2 + 1) = 2 * (ss.length / 2) + 1 + 1 by lia, List.drop_succ_cons, List.drop_succ_cons, List.cons_append, cr_split ss ls (by simpa using h)]
/-- each sum is at most the whole crossed sum -/
theorem le_cs : ∀ {ss ls : List Nat}, ss.length = ls.length → (∀ n ∈ ls, 0 < n) → ∀ s ∈ ss, s ≤ cs ss ls
  | [], [], _, _, s, h => nomatch h
  | x :: ss, l :: ls, h, hp, s, hs => by
    rw [cs]
    have hp' := prod_pos fun z hz => hp z (List.mem_cons_of_mem l hz)
    rcases List.mem_cons.mp hs with rfl | hs
    · exact Nat.le_trans (Nat.le_mul_of_pos_right _ hp') (Nat.le_add_right _ _)
    · have h1 := le_cs (ss := ss) (ls := ls) (by simpa using h) (fun z hz => hp z (List.mem_cons_of_mem _ hz)) s hs
      exact Nat.le_trans (Nat.le_trans h1 (Nat.le_mul_of_pos_left _ (hp l List.mem_cons_self))) (Nat.le_add_left _ _)
/-- the sum of products -/
def sp : List (Nat × Nat) → Nat
  | [] => 0
  | p :: r => p.1 * p.2 + sp r
theorem sp_snoc : ∀ (l : List (Nat × Nat)) (p : Nat × Nat), sp (l ++ [p]) = sp l + p.1 * p.2
  | [], p => by simp [sp]
  | q :: r, p => by rw [List.cons_append, sp, sp, sp_snoc r p, Nat.add_assoc]
theorem sp_take {l : List (Nat × Nat)} {i : Nat} {p : Nat × Nat} (h : l[i]? = some p) : sp (l.take (i + 1)) = sp (l.take i) + p.1 * p.2 := by
  rw [List.take_add_one, h, Option.toList_some, sp_snoc]
theorem sp_take_le : ∀ (l : List (Nat × Nat)) (i : Nat), sp (l.take i) ≤ sp l
  | [], _ => by simp [sp]
  | _ :: _, 0 => by simp [sp]
  | p :: r, i + 1 => by rw [List.take_succ_cons, sp, sp]; exact Nat.add_le_add_left (sp_take_le r i) _
end CR
namespace CR
open PySem PySem.W PyProof.Rows
abbrev pr (k : Nat) (p : Nat × Nat) : PV := .tup [num k p.1, num k p.2]
section
variable {prog : Program} {w : World} {K : Frag} {ad : Nat → Addr}
theorem sum_of_products_ok (P : Prg K ad) {k : Nat} (hk : 1 ≤ k ∧ k ≤ 20) (ps : List (Nat × Nat)) (hl : ps.length ≤ 1000) (hb : ∀ p ∈ ps, p.1 < 2 ^ 200 ∧ p.2 < 2 ^ 200) (hs : sp ps < 2 ^ 400) :
    FCall prog w K 3 (ad 16) [] [.list (ps.map (pr k)), .int k, .ref (ad 22)] (fun r _ => r = .val (num k (sp ps))) := by
  refine enter (P.fn 16 (by decide)) [Nm "pairs", Nm "w", Nm "mul"] (by (intro nm q doc pm an cdv ct vals h; obtain ⟨a, b, c, e⟩ := len3 h; subst e; with_unfolding_all rfl)) (fun _ => rfl) (by decide) rfl [(Nm "pairs", .pv (.list (ps.map (pr k)))), (Nm "w", pn k), (Nm "mul", .pv (.ref (ad 22)))] [] rfl rfl ?_
  intro bs L q cd _ hc
  refine let C : Cx := _; let Z : RF → St → Prop := _; (show WB C _ _ Z from ?_)
  refine b_next ?_
  repeat (with_reducible first | refine l_nil ?_ | refine sto_l ?_ | refine x_assign ?_ | refine e_list ?_ | refine ⟨[], rfl, by decide, ?_⟩)
  refine .inl ?_
  repeat (with_reducible first | (refine x_name ?_; refine ⟨_, by with_unfolding_all rfl, ?_⟩) | refine ⟨rfl, ?_⟩ | refine ⟨_, rfl, ?_⟩ | refine b_for ?_ | refine s_for ?_ | refine it_list ?_)
  let I1 : Nat → St → Prop := fun j σ => σ = ⟨[(Nm "pairs", .pv (.list (ps.map (pr k)))), (Nm "w", pn k), (Nm "mul", .pv (.ref (ad 22))), (Nm "found", .pv (num k (sp (ps.take j))))], []⟩
  refine for_list I1 ?_ ?_ ?_
  · show _ = _
    rw [List.take_zero, show sp [] = 0 from rfl, num, limbs_zero]; rfl
  · rintro j p hp _ rfl bs' _ _
    obtain ⟨b1, b2⟩ := hb p (List.mem_of_getElem? hp)
    have l1 := limbs_len2 hk.1 b1
    have l2 := limbs_len2 hk.1 b2
    have b3 : p.1 * p.2 < 2 ^ 400 := by
      have := Nat.mul_lt_mul'' b1 b2
      rwa [← Nat.pow_add] at this
    have l3 := limbs_len2 hk.1 b3
    have l4 := limbs_len2 hk.1 (Nat.lt_of_le_of_lt (sp_take_le ps j) hs)
    repeat (with_reducible first | (refine x_name ?_; refine ⟨_, by with_unfolding_all rfl, ?_⟩) | refine l_cons ?_ | refine l_nil ?_ | refine sto_l ?_ | refine e_call ?_ | refine x_assign ?_ | refine b_next ?_ | refine k_ref (Prg.keep (by assumption) (by decide)) ?_ | refine xa_name ?_ | refine a_tup ?_ | refine as_consm ?_ | refine as_nilm ?_ | (refine e_glob (g_add (by assumption)) ?_))
    refine call_v (mul_school_ok P (m := p.1) (n := p.2) hk (by lia) (by lia)) ?_
    repeat (with_reducible first | (refine x_name ?_; refine ⟨_, by with_unfolding_all rfl, ?_⟩) | refine l_cons ?_ | refine l_nil ?_)
    refine call_n (add_ok P (m := sp (ps.take j)) (n := p.1 * p.2) ⟨hk.1, by lia⟩ (by lia) (by lia)) (.inl ?_)
    rw [← sp_take hp]
    repeat (with_reducible first | refine ⟨rfl, ?_⟩ | refine b_nil ?_)
    exact loop_next (next_of (N := fun σ => σ = _) rfl)
  · rintro _ rfl
    rw [List.take_length]
    repeat (with_reducible first | (refine x_name ?_; refine ⟨_, by with_unfolding_all rfl, ?_⟩) | refine s_return ?_ | refine b_ret ?_ | refine then_next ?_ | refine then_ret ?_)
    exact fin_val rfl
theorem crossed_above_ok (P : Prg K ad) {k : Nat} (hk : 1 ≤ k ∧ k ≤ 20) (ss ls : List Nat) (hl : 1 ≤ ls.length ∧ ls.length ≤ 100) (he : ss.length = ls.length) (hs : ∀ n ∈ ss, n < 2 ^ 200) (hb : ∀ n ∈ ls, n < 2 ^ 200) :
    FCall prog w K 3 (ad 17) [] [lev k ss, lev k ls, .int k, .ref (ad 22)] (fun r _ => r = .fresh ((cr ss ls).map (num k))) := by
  refine enter (P.fn 17 (by decide)) [Nm "sums", Nm "level", Nm "w", Nm "mul"] (by (intro nm q doc pm an cdv ct vals h; obtain ⟨a, b, c, d, e⟩ := len4 h; subst e; with_unfolding_all rfl)) (fun _ => rfl) (by decide) rfl [(Nm "sums", .pv (lev k ss)), (Nm "level", .pv (lev k ls)), (Nm "w", pn k), (Nm "mul", .pv (.ref (ad 22)))] [] rfl rfl ?_
  intro bs L q cd _ hc
  refine let C : Cx := _; let Z : RF → St → Prop := _; (show WB C _ _ Z from ?_)
  refine b_next ?_
  repeat (with_reducible first | refine l_nil ?_ | refine sto_l ?_ | refine x_assign ?_ | refine e_list ?_ | refine ⟨[], rfl, by decide, ?_⟩)
  refine .inr ?_
  repeat (with_reducible first | (refine x_name ?_; refine ⟨_, by with_unfolding_all rfl, ?_⟩) | refine e_nat ?_ | refine l_cons ?_ | refine l_nil ?_ | refine e_bin ?_ | refine ⟨rfl, ?_⟩ | refine ⟨_, rfl, ?_⟩ | refine e_call ?_ | refine ⟨_, _, _, by with_unfolding_all rfl, by (first | assumption | (with_unfolding_all exact Nat.le_of_ble_eq_true rfl) | (apply Nat.le_trans; assumption; with_unfolding_all exact Nat.le_of_ble_eq_true rfl) | (apply Nat.lt_of_le_of_lt; assumption; with_unfolding_all exact Nat.le_of_ble_eq_true rfl) | ((try simp only [List.length_map, List.length_append, List.length_cons, List.length_nil, List.length_set, List.length_replicate, List.length_take, List.length_drop, List.length_reverse]); first | assumption | lia) | decide), ?_⟩ | refine b_for ?_ | refine s_for ?_ | refine x_range_by2 ?_ | refine k_bi ?_ | refine x_len ?_ | (refine sub_nn ?_ ?_; (first | assumption | (with_unfolding_all exact Nat.le_of_ble_eq_true rfl) | (apply Nat.le_trans; assumption; with_unfolding_all exact Nat.le_of_ble_eq_true rfl) | (apply Nat.lt_of_le_of_lt; assumption; with_unfolding_all exact Nat.le_of_ble_eq_true rfl) | ((try simp only [List.length_map, List.length_append, List.length_cons, List.length_nil, List.length_set, List.length_replicate, List.length_take, List.length_drop, List.length_reverse]); first | assumption | lia) | decide)) | refine b_len (by assumption) ?_ | refine b_range (by assumption) ?_ | refine ⟨by (first | assumption | (with_unfolding_all exact Nat.le_of_ble_eq_true rfl) | (apply Nat.le_trans; assumption; with_unfolding_all exact Nat.le_of_ble_eq_true rfl) | (apply Nat.lt_of_le_of_lt; assumption; with_unfolding_all exact Nat.le_of_ble_eq_true rfl) | ((try simp only [List.length_map, List.length_append, List.length_cons, List.length_nil, List.length_set, List.length_replicate, List.length_take, List.length_drop, List.length_reverse]); first | assumption | lia) | decide), ?_⟩)
  have hul := up_len ls
  have hcl := cr_len ss ls he
  let I2 : Nat → St → Prop := fun j σ => σ = ⟨[(Nm "sums", .pv (lev k ss)), (Nm "level", .pv (lev k ls)), (Nm "w", pn k), (Nm "mul", .pv (.ref (ad 22))), (Nm "found", .own 0)], [some (((cr ss ls).take j).map (num k))]⟩
  refine for_by2 I2 rfl ?_ ?_
  · rintro j hj _ rfl bs' _ _
    obtain ⟨a, ha⟩ : ∃ a, ss[2 * j]? = some a := ⟨_, List.getElem?_eq_getElem (by lia)⟩
    obtain ⟨b, hb'⟩ : ∃ b, ss[2 * j + 1]? = some b := ⟨_, List.getElem?_eq_getElem (by lia)⟩
    obtain ⟨c, hc'⟩ : ∃ c, ls[2 * j]? = some c := ⟨_, List.getElem?_eq_getElem (by lia)⟩
    obtain ⟨d, hd'⟩ : ∃ d, ls[2 * j + 1]? = some d := ⟨_, List.getElem?_eq_getElem (by lia)⟩
    have ba := hs a (List.mem_of_getElem? ha)
    have bb := hs b (List.mem_of_getElem? hb')
    have bc := hb c (List.mem_of_getElem? hc')
    have bd := hb d (List.mem_of_getElem? hd')
    have la := limbs_len2 hk.1 ba
    have lb := limbs_len2 hk.1 bb
    have lc := limbs_len2 hk.1 bc
    have ld := limbs_len2 hk.1 bd
    have lad := limbs_len2 (k := 400) hk.1 (show a * d < 2 ^ 400 by
      have := Nat.mul_lt_mul'' ba bd
      rwa [← Nat.pow_add] at this)
    have lbc := limbs_len2 (k := 400) hk.1 (show b * c < 2 ^ 400 by
      have := Nat.mul_lt_mul'' bb bc
      rwa [← Nat.pow_add] at this)
    have hu := cr_get ha hb' hc' hd'
    repeat (with_reducible first | (refine x_name ?_; refine ⟨_, by with_unfolding_all rfl, ?_⟩) | refine e_nat ?_ | refine l_cons ?_ | refine l_nil ?_ | refine e_bin ?_ | refine sto_l ?_ | refine e_sub ?_ | refine e_call ?_ | refine x_ix ?_ | refine add_nn ?_ | refine ⟨_, _, _, _, by with_unfolding_all rfl, by (first | assumption | with_unfolding_all assumption), by (first | assumption | (with_unfolding_all exact Nat.le_of_ble_eq_true rfl) | (apply Nat.le_trans; assumption; with_unfolding_all exact Nat.le_of_ble_eq_true rfl) | (apply Nat.lt_of_le_of_lt; assumption; with_unfolding_all exact Nat.le_of_ble_eq_true rfl) | ((try simp only [List.length_map, List.length_append, List.length_cons, List.length_nil, List.length_set, List.length_replicate, List.length_take, List.length_drop, List.length_reverse]); first | assumption | lia) | decide), ?_⟩ | refine x_sw2 ?_ | refine b_next ?_ | refine k_ref (Prg.keep (by assumption) (by decide)) ?_ | refine xa_name ?_)
    refine call_v (mul_school_ok P (m := a) (n := d) hk (by lia) (by lia)) ?_
    repeat (with_reducible first | (refine x_name ?_; refine ⟨_, by with_unfolding_all rfl, ?_⟩) | refine e_nat ?_ | refine l_cons ?_ | refine l_nil ?_ | refine e_bin ?_ | refine e_sub ?_ | refine e_call ?_ | refine x_ix ?_ | refine add_nn ?_ | refine ⟨_, _, _, _, by with_unfolding_all rfl, by (first | assumption | with_unfolding_all assumption), by (first | assumption | (with_unfolding_all exact Nat.le_of_ble_eq_true rfl) | (apply Nat.le_trans; assumption; with_unfolding_all exact Nat.le_of_ble_eq_true rfl) | (apply Nat.lt_of_le_of_lt; assumption; with_unfolding_all exact Nat.le_of_ble_eq_true rfl) | ((try simp only [List.length_map, List.length_append, List.length_cons, List.length_nil, List.length_set, List.length_replicate, List.length_take, List.length_drop, List.length_reverse]); first | assumption | lia) | decide), ?_⟩ | refine k_ref (Prg.keep (by assumption) (by decide)) ?_)
    refine call_v (mul_school_ok P (m := b) (n := c) hk (by lia) (by lia)) ?_
    repeat (with_reducible first | (refine x_name ?_; refine ⟨_, by with_unfolding_all rfl, ?_⟩) | refine l_cons ?_ | refine l_nil ?_ | refine ⟨rfl, ?_⟩ | refine sto_l ?_ | refine e_call ?_ | refine ⟨_, _, rfl, ?_⟩ | refine s_expr ?_ | refine b_next ?_ | refine k_ref (Prg.keep (by assumption) (by decide)) ?_ | refine x_append ?_ | refine own_q ?_ | refine ⟨⟨_, by with_unfolding_all rfl⟩, ?_⟩ | (refine e_glob (g_add (by assumption)) ?_))
    refine call_n (add_ok P (m := a * d) (n := b * c) ⟨hk.1, by lia⟩ (by lia) (by lia)) (.inl ?_)
    skip
    refine push_f (num k) rfl (by rw [List.length_take]; lia) ?_
    repeat (with_reducible first | refine ⟨rfl, ?_⟩ | refine b_nil ?_)
    refine loop_next (next_of (N := fun σ => σ = _) rfl (hO := ?_))
    rw [List.take_add_one, hu]; rfl
  · rintro _ rfl
    have e : (ls.length - 1 + 1) / 2 = ss.length / 2 := by lia
    rw [e]
    have hfl : ((cr ss ls).take (ss.length / 2)).length = ss.length / 2 := by rw [List.length_take]; lia
    repeat (with_reducible first | (refine x_name ?_; refine ⟨_, by with_unfolding_all rfl, ?_⟩) | refine e_nat ?_ | refine l_cons ?_ | refine l_nil ?_ | refine e_bin ?_ | refine ⟨_, rfl, ?_⟩ | refine e_slice ?_ | refine e_call ?_ | refine ⟨_, _, _, by with_unfolding_all rfl, by (first | assumption | (with_unfolding_all exact Nat.le_of_ble_eq_true rfl) | (apply Nat.le_trans; assumption; with_unfolding_all exact Nat.le_of_ble_eq_true rfl) | (apply Nat.lt_of_le_of_lt; assumption; with_unfolding_all exact Nat.le_of_ble_eq_true rfl) | ((try simp only [List.length_map, List.length_append, List.length_cons, List.length_nil, List.length_set, List.length_replicate, List.length_take, List.length_drop, List.length_reverse]); first | assumption | lia) | decide), ?_⟩ | refine s_return ?_ | refine b_ret ?_ | refine then_next ?_ | refine k_bi ?_ | refine x_len ?_ | (refine mul_nn ?_ ?_; (first | assumption | (with_unfolding_all exact Nat.le_of_ble_eq_true rfl) | (apply Nat.le_trans; assumption; with_unfolding_all exact Nat.le_of_ble_eq_true rfl) | (apply Nat.lt_of_le_of_lt; assumption; with_unfolding_all exact Nat.le_of_ble_eq_true rfl) | ((try simp only [List.length_map, List.length_append, List.length_cons, List.length_nil, List.length_set, List.length_replicate, List.length_take, List.length_drop, List.length_reverse]); first | assumption | lia) | decide)) | refine x_from ?_ | refine o_none ?_ | refine o_some ?_ | refine b_len (by assumption) ?_)
    refine .inl ?_
    repeat (with_reducible first | refine x_addl ?_ | refine ⟨_, _, _, _, by with_unfolding_all rfl, by with_unfolding_all rfl, by (first | assumption | (with_unfolding_all exact Nat.le_of_ble_eq_true rfl) | (apply Nat.le_trans; assumption; with_unfolding_all exact Nat.le_of_ble_eq_true rfl) | (apply Nat.lt_of_le_of_lt; assumption; with_unfolding_all exact Nat.le_of_ble_eq_true rfl) | ((try simp only [List.length_map, List.length_append, List.length_cons, List.length_nil, List.length_set, List.length_replicate, List.length_take, List.length_drop, List.length_reverse]); first | assumption | lia) | decide), ?_⟩)
    refine .inr ?_
    repeat (with_reducible first | refine then_ret ?_)
    refine fin_fresh rfl ?_
    rw [hfl, Nat.mul_comm, cr_split ss ls he]
theorem crossed_ok (P : Prg K ad) {k : Nat} (hk : 1 ≤ k ∧ k ≤ 20) (ss ns : List Nat) (hl : 1 ≤ ns.length ∧ ns.length ≤ 100) (he : ss.length = ns.length) (hp : ∀ n ∈ ns, 0 < n) (hs : cs ss ns < 2 ^ 200) (hb : prod ns < 2 ^ 200) :
    FCall prog w K 4 (ad 18) [] [lev k ss, .list ((tree ns).map (lev k)), .int k, .ref (ad 22)] (fun r _ => r = .val (num k (cs ss ns))) := by
  refine enter (P.fn 18 (by decide)) [Nm "sums", Nm "levels", Nm "w", Nm "mul"] (by (intro nm q doc pm an cdv ct vals h; obtain ⟨a, b, c, d, e⟩ := len4 h; subst e; with_unfolding_all rfl)) (fun _ => rfl) (by decide) rfl [(Nm "sums", .pv (lev k ss)), (Nm "levels", .pv (.list ((tree ns).map (lev k)))), (Nm "w", pn k), (Nm "mul", .pv (.ref (ad 22)))] [] rfl rfl ?_
  intro bs L q cd _ hc
  refine let C : Cx := _; let Z : RF → St → Prop := _; (show WB C _ _ Z from ?_)
  have htl := tree_len ns.length ns (Nat.le_refl _)
  have hta := tree_all ns.length ns (Nat.le_refl _) hp
  have hts := tree_step ns.length ns (Nat.le_refl _)
  have hne : ns ≠ [] := fun e => by rw [e] at hl; simp at hl
  have hlast := tree_last ns.length ns (Nat.le_refl _) hne
  have hpos : 0 < (tree ns).length := by
    have := (List.getElem?_eq_some_iff.mp (tree_head ns)).1; exact this
  refine b_then ?_
  repeat (with_reducible first | (refine x_name ?_; refine ⟨_, by with_unfolding_all rfl, ?_⟩) | refine ⟨_, rfl, ?_⟩ | refine e_slice ?_ | refine ⟨_, _, _, by with_unfolding_all rfl, by (first | assumption | (with_unfolding_all exact Nat.le_of_ble_eq_true rfl) | (apply Nat.le_trans; assumption; with_unfolding_all exact Nat.le_of_ble_eq_true rfl) | (apply Nat.lt_of_le_of_lt; assumption; with_unfolding_all exact Nat.le_of_ble_eq_true rfl) | ((try simp only [List.length_map, List.length_append, List.length_cons, List.length_nil, List.length_set, List.length_replicate, List.length_take, List.length_drop, List.length_reverse]); first | assumption | lia) | decide), ?_⟩ | refine s_for ?_ | refine it_list ?_ | refine x_but ?_ | refine o_none ?_ | refine o_some ?_ | refine e_neg1 ?_)
  refine .inl ?_
  repeat (with_reducible first | refine ⟨_, rfl, ?_⟩)
  let I3 : Nat → St → Prop := fun j σ => ∃ ts l, σ = ⟨[(Nm "sums", .pv (lev k ts)), (Nm "levels", .pv (.list ((tree ns).map (lev k)))), (Nm "w", pn k), (Nm "mul", .pv (.ref (ad 22)))], []⟩ ∧ (tree ns)[j]? = some l ∧ ts.length = l.length ∧ cs ts l = cs ss ns
  refine for_list I3 ⟨ss, ns, rfl, tree_head ns, he, rfl⟩ ?_ ?_
  · rintro j l hj _ ⟨ts, l', rfl, h1, h2, h3⟩ bs' _ _
    have hj1 : j < (tree ns).length - 1 := by
      have := (List.getElem?_eq_some_iff.mp hj).1
      rw [List.length_take] at this; lia
    rw [List.getElem?_take, if_pos hj1] at hj
    rw [h1] at hj
    cases hj
    obtain ⟨l2, hl2⟩ : ∃ l2, (tree ns)[j + 1]? = some l2 := ⟨_, List.getElem?_eq_getElem (by lia)⟩
    obtain ⟨rfl, hlen⟩ := hts j l l2 h1 hl2
    obtain ⟨g1, g2, g3⟩ := hta l (List.mem_of_getElem? h1)
    repeat (with_reducible first | (refine x_name ?_; refine ⟨_, by with_unfolding_all rfl, ?_⟩) | refine l_cons ?_ | refine l_nil ?_ | refine sto_l ?_ | refine e_call ?_ | refine x_assign ?_ | refine b_next ?_ | refine k_ref (Prg.keep (by assumption) (by decide)) ?_ | refine xa_name ?_ | (refine e_glob (g_crossed_above (by assumption)) ?_))
    refine call_n (crossed_above_ok P hk ts l (by lia) h2 (fun n hn => Nat.lt_of_le_of_lt (le_cs h2 g2 n hn) (by rw [h3]; exact hs)) (fun n hn => Nat.lt_of_le_of_lt (le_prod g2 n hn) (by rw [g1]; exact hb))) (.inl ?_)
    repeat (with_reducible first | refine ⟨rfl, ?_⟩ | refine b_nil ?_)
    exact loop_next (next_of ⟨cr ts l, up l, rfl, hl2, cr_len ts l h2, by rw [cr_cs ts l h2, h3]⟩)
  · rintro _ ⟨ts, l, rfl, h1, h2, h3⟩
    have e : ((tree ns).take ((tree ns).length - 1)).length = (tree ns).length - 1 := by rw [List.length_take]; lia
    rw [e] at h1
    rw [← List.getLast?_eq_getElem?, hlast] at h1
    cases h1
    obtain ⟨x, rfl⟩ := List.length_eq_one_iff.mp h2
    have hx : [x][0]? = some x := rfl
    repeat (with_reducible first | (refine x_name ?_; refine ⟨_, by with_unfolding_all rfl, ?_⟩) | refine e_nat ?_ | refine e_sub ?_ | (refine x_ixp ?_; refine ⟨_, _, by with_unfolding_all rfl, by with_unfolding_all rfl, by (first | assumption | (with_unfolding_all exact Nat.le_of_ble_eq_true rfl) | (apply Nat.le_trans; assumption; with_unfolding_all exact Nat.le_of_ble_eq_true rfl) | (apply Nat.lt_of_le_of_lt; assumption; with_unfolding_all exact Nat.le_of_ble_eq_true rfl) | ((try simp only [List.length_map, List.length_append, List.length_cons, List.length_nil, List.length_set, List.length_replicate, List.length_take, List.length_drop, List.length_reverse]); first | assumption | lia) | decide), ?_⟩) | refine s_return ?_ | refine b_ret ?_ | refine then_next ?_ | refine then_ret ?_)
    refine fin_val ?_
    rw [← h3]
    simp [cs, prod]
end
end CR
namespace CR
open PySem PySem.W PyProof.Rows
section
variable {prog : Program} {w : World} {K : Frag} {ad : Nat → Addr}
theorem remainder_tree_ok (P : Prg K ad) {k a : Nat} (hk : 1 ≤ k ∧ k ≤ 20) (ns : List Nat) (hl : 1 ≤ ns.length ∧ ns.length ≤ 100) (ha : a < 2 ^ 200) (hp : ∀ n ∈ ns, 0 < n) (hb : prod ns < 2 ^ 200) :
    FCall prog w K 5 (ad 15) [] [num k a, .list ((tree ns).map (lev k)), .int k, .ref (ad 28)] (fun r _ => r = .val (lev k (ns.map (a % ·)))) := by
  refine enter (P.fn 15 (by decide)) [Nm "a", Nm "levels", Nm "w", Nm "divrem"] (by (intro nm q doc pm an cdv ct vals h; obtain ⟨a, b, c, d, e⟩ := len4 h; subst e; with_unfolding_all rfl)) (fun _ => rfl) (by decide) rfl [(Nm "a", .pv (num k a)), (Nm "levels", .pv (.list ((tree ns).map (lev k)))), (Nm "w", pn k), (Nm "divrem", .pv (.ref (ad 28)))] [] rfl rfl ?_
  intro bs L q cd _ hc
  refine let C : Cx := _; let Z : RF → St → Prop := _; (show WB C _ _ Z from ?_)
  have htl := tree_len ns.length ns (Nat.le_refl _)
  have hta := tree_all ns.length ns (Nat.le_refl _) hp
  have hts := tree_step ns.length ns (Nat.le_refl _)
  have hne : ns ≠ [] := fun e => by rw [e] at hl; simp at hl
  have hlast := tree_last ns.length ns (Nat.le_refl _) hne
  have hth := tree_head ns
  have hpos : 0 < (tree ns).length := (List.getElem?_eq_some_iff.mp hth).1
  refine b_then ?_
  repeat (with_reducible first | (refine x_name ?_; refine ⟨_, by with_unfolding_all rfl, ?_⟩) | refine e_nat ?_ | refine l_cons ?_ | refine l_nil ?_ | refine ⟨_, rfl, ?_⟩ | refine t_cmp ?_ | refine e_sub ?_ | refine e_call ?_ | refine x_ix ?_ | refine ⟨_, _, _, _, by with_unfolding_all rfl, by (first | assumption | with_unfolding_all assumption), by (first | assumption | (with_unfolding_all exact Nat.le_of_ble_eq_true rfl) | (apply Nat.le_trans; assumption; with_unfolding_all exact Nat.le_of_ble_eq_true rfl) | (apply Nat.lt_of_le_of_lt; assumption; with_unfolding_all exact Nat.le_of_ble_eq_true rfl) | ((try simp only [List.length_map, List.length_append, List.length_cons, List.length_nil, List.length_set, List.length_replicate, List.length_take, List.length_drop, List.length_reverse]); first | assumption | lia) | decide), ?_⟩ | refine ⟨_, _, _, by with_unfolding_all rfl, by (first | assumption | (with_unfolding_all exact Nat.le_of_ble_eq_true rfl) | (apply Nat.le_trans; assumption; with_unfolding_all exact Nat.le_of_ble_eq_true rfl) | (apply Nat.lt_of_le_of_lt; assumption; with_unfolding_all exact Nat.le_of_ble_eq_true rfl) | ((try simp only [List.length_map, List.length_append, List.length_cons, List.length_nil, List.length_set, List.length_replicate, List.length_take, List.length_drop, List.length_reverse]); first | assumption | lia) | decide), ?_⟩ | refine x_assign ?_ | refine s_if ?_ | refine b_nil ?_ | refine b_next ?_ | refine then_next ?_ | (refine ite_f ?_ ?_; (first | assumption | (with_unfolding_all exact Nat.le_of_ble_eq_true rfl) | (apply Nat.le_trans; assumption; with_unfolding_all exact Nat.le_of_ble_eq_true rfl) | (apply Nat.lt_of_le_of_lt; assumption; with_unfolding_all exact Nat.le_of_ble_eq_true rfl) | ((try simp only [List.length_map, List.length_append, List.length_cons, List.length_nil, List.length_set, List.length_replicate, List.length_take, List.length_drop, List.length_reverse]); first | assumption | lia) | decide)) | refine k_bi ?_ | refine x_len ?_ | refine eq_nn ?_ | refine e_list ?_ | refine sto_c (by assumption) ?_ | refine ⟨[_], by with_unfolding_all rfl, by (first | assumption | (with_unfolding_all exact Nat.le_of_ble_eq_true rfl) | (apply Nat.le_trans; assumption; with_unfolding_all exact Nat.le_of_ble_eq_true rfl) | (apply Nat.lt_of_le_of_lt; assumption; with_unfolding_all exact Nat.le_of_ble_eq_true rfl) | ((try simp only [List.length_map, List.length_append, List.length_cons, List.length_nil, List.length_set, List.length_replicate, List.length_take, List.length_drop, List.length_reverse]); first | assumption | lia) | decide), ?_⟩ | refine b_len (by assumption) ?_)
  refine .inl ?_
  repeat (with_reducible first | (refine x_name ?_; refine ⟨_, by with_unfolding_all rfl, ?_⟩) | refine ⟨rfl, ?_⟩ | refine ⟨_, rfl, ?_⟩ | refine e_slice ?_ | refine ⟨_, _, _, by with_unfolding_all rfl, by (first | assumption | (with_unfolding_all exact Nat.le_of_ble_eq_true rfl) | (apply Nat.le_trans; assumption; with_unfolding_all exact Nat.le_of_ble_eq_true rfl) | (apply Nat.lt_of_le_of_lt; assumption; with_unfolding_all exact Nat.le_of_ble_eq_true rfl) | ((try simp only [List.length_map, List.length_append, List.length_cons, List.length_nil, List.length_set, List.length_replicate, List.length_take, List.length_drop, List.length_reverse]); first | assumption | lia) | decide), ?_⟩ | refine b_for ?_ | refine s_for ?_ | refine it_list ?_ | refine x_rev ?_ | refine o_none ?_ | refine o_some ?_ | refine e_neg1 ?_)
  refine .inl ?_
  repeat (with_reducible first | refine ⟨_, rfl, ?_⟩)
  let I1 : Nat → St → Prop := fun i σ => ∃ rs, σ = ⟨[(Nm "a", .pv (num k a)), (Nm "levels", .pv (.list ((tree ns).map (lev k)))), (Nm "w", pn k), (Nm "divrem", .pv (.ref (ad 28))), (Nm "rests", .pv (lev k rs))], []⟩ ∧ (i = 0 → rs = [a]) ∧ (0 < i → ∃ l, (tree ns).reverse[i - 1]? = some l ∧ rs = l.map (a % ·))
  refine for_list I1 ⟨[a], rfl, fun _ => rfl, fun h => absurd h (Nat.lt_irrefl _)⟩ ?_ ?_
  · rintro i l hi _ ⟨rs, rfl, h0, h1⟩ bs' _ hc'
    have hcc : bs'.cellsOwn = true := hc'.trans hc
    have hil : i < (tree ns).length := by
      have := (List.getElem?_eq_some_iff.mp hi).1
      rwa [List.length_reverse] at this
    have hi' := hi
    rw [List.getElem?_reverse hil] at hi'
    obtain ⟨g1, g2, g3⟩ := hta l (List.mem_of_getElem? hi')
    have hlb : ∀ n ∈ l, n < 2 ^ 200 := fun n hn => Nat.lt_of_le_of_lt (le_prod g2 n hn) (by rw [g1]; exact hb)
    have hidx : rs.length ≤ 100 ∧ ∀ (j n : Nat), l[j]? = some n → ∃ x, rs[if rs.length < l.length then j / 2 else j]? = some x ∧ x % n = a % n ∧ x < 2 ^ 200 := by
      by_cases hz : i = 0
      · have hr := h0 hz
        subst hr
        subst hz
        rw [Nat.sub_zero, ← List.getLast?_eq_getElem?, hlast] at hi'
        cases hi'
        refine ⟨by simp, fun j n hj => ⟨a, ?_, rfl, ha⟩⟩
        have : j = 0 := by
          have := (List.getElem?_eq_some_iff.mp hj).1
          simpa using this
        subst this
        simp
      · obtain ⟨l', hl', rfl⟩ := h1 (by lia)
        rw [List.getElem?_reverse (by lia)] at hl'
        obtain ⟨rfl, h2⟩ := hts ((tree ns).length - 1 - i) l l' hi' (by rw [show (tree ns).length - 1 - i + 1 = (tree ns).length - 1 - (i - 1) by lia]; exact hl')
        have hul := up_len l
        refine ⟨by rw [List.length_map]; lia, fun j n hj => ?_⟩
        obtain ⟨m, hm, hd⟩ := up_dvd hj
        refine ⟨a % m, ?_, Nat.mod_mod_of_dvd a hd, Nat.lt_of_le_of_lt (Nat.mod_le _ _) ha⟩
        rw [List.length_map, if_pos (by lia), List.getElem?_map, hm]; rfl
    obtain ⟨hrl, hidx⟩ := hidx
    repeat (with_reducible first | refine l_cons ?_ | refine e_call ?_ | refine s_if ?_ | refine b_if ?_ | refine k_bi ?_ | refine sto_c (by assumption) ?_ | refine t_call ?_ | refine xa_name ?_ | refine b_any (by assumption) ?_)
    refine e_comp ?_
    repeat (with_reducible first | (refine x_name ?_; refine ⟨_, by with_unfolding_all rfl, ?_⟩) | refine ⟨_, rfl, ?_⟩ | refine it_list ?_)
    refine comp_inv (g := fun n => .bool (decide ((limbs (2 ^ k) n).length = 0))) [] (by lia) ?_ ?_
    · intro C0 bs'' h1 h2 j n hn
      have ln := limbs_len2 hk.1 (hlb n (List.mem_of_getElem? hn))
      repeat (with_reducible first | (refine x_name ?_; refine ⟨_, by with_unfolding_all rfl, ?_⟩) | refine e_nat ?_ | refine l_cons ?_ | refine l_nil ?_ | refine ⟨rfl, ?_⟩ | refine sto_l ?_ | refine e_call ?_ | refine ⟨_, _, _, by with_unfolding_all rfl, by (first | assumption | (with_unfolding_all exact Nat.le_of_ble_eq_true rfl) | (apply Nat.le_trans; assumption; with_unfolding_all exact Nat.le_of_ble_eq_true rfl) | (apply Nat.lt_of_le_of_lt; assumption; with_unfolding_all exact Nat.le_of_ble_eq_true rfl) | ((try simp only [List.length_map, List.length_append, List.length_cons, List.length_nil, List.length_set, List.length_replicate, List.length_take, List.length_drop, List.length_reverse]); first | assumption | lia) | decide), ?_⟩ | refine k_bi ?_ | refine x_len ?_ | refine eq_nn ?_ | refine e_cmp ?_ | refine xa_name ?_ | refine b_len (by assumption) ?_)
      exact less_of
    · have e : l.map (fun n => PV.bool (decide ((limbs (2 ^ k) n).length = 0))) = (l.map fun n => decide ((limbs (2 ^ k) n).length = 0)).map PV.bool := by rw [List.map_map]; rfl
      have hany : (l.map fun n => decide ((limbs (2 ^ k) n).length = 0)).any id = false := by
        rw [List.any_eq_false]
        intro b hb'
        obtain ⟨n, hn, rfl⟩ := List.mem_map.mp hb'
        have := List.length_pos_iff.mpr (limbs_ne (two_le_pow hk.1) (n := n) (by have := g2 n hn; lia))
        simp; intro c; rw [c] at this; simp at this
      rw [e]
      refine .inl ?_
      refine l_nil ?_
      refine f_any ?_
      rw [hany]
      repeat (with_reducible first | refine ⟨_, rfl, ?_⟩ | refine x_assign ?_ | refine b_nil ?_ | refine b_next ?_ | refine then_next ?_ | refine ite_ff ?_ | refine sto_c (by assumption) ?_)
      refine e_comp ?_
      repeat (with_reducible first | (refine x_name ?_; refine ⟨_, by with_unfolding_all rfl, ?_⟩) | refine ⟨rfl, ?_⟩ | refine ⟨_, rfl, ?_⟩ | refine it_enum ?_ | refine b_enumerate (by assumption) ?_)
      refine comp_enum (gi := fun _ n => num k (a % n)) [(Nm "w", pn k), (Nm "divrem", .pv (.ref (ad 28))), (Nm "rests", .pv (lev k rs)), (Nm "level", .pv (lev k l))] (by lia) ?_ ?_
      · intro C0 bs'' h1 h2 j n hn
        obtain ⟨x, hx1, hx2, hx3⟩ := hidx j n hn
        have hjl : j < l.length := (List.getElem?_eq_some_iff.mp hn).1
        have hlx := limbs_len2 hk.1 hx3
        have hln := limbs_len2 hk.1 (hlb n (List.mem_of_getElem? hn))
        by_cases hlt : rs.length < l.length
        · rw [if_pos hlt] at hx1
          repeat (with_reducible first | (refine x_name ?_; refine ⟨_, by with_unfolding_all rfl, ?_⟩) | refine e_nat ?_ | refine l_cons ?_ | refine l_nil ?_ | refine e_bin ?_ | refine sto_l ?_ | refine ⟨_, rfl, ?_⟩ | refine t_cmp ?_ | refine e_sub ?_ | refine e_call ?_ | refine x_ix ?_ | refine ⟨_, _, _, _, by with_unfolding_all rfl, by (first | assumption | with_unfolding_all assumption), by (first | assumption | (with_unfolding_all exact Nat.le_of_ble_eq_true rfl) | (apply Nat.le_trans; assumption; with_unfolding_all exact Nat.le_of_ble_eq_true rfl) | (apply Nat.lt_of_le_of_lt; assumption; with_unfolding_all exact Nat.le_of_ble_eq_true rfl) | ((try simp only [List.length_map, List.length_append, List.length_cons, List.length_nil, List.length_set, List.length_replicate, List.length_take, List.length_drop, List.length_reverse]); first | assumption | lia) | decide), ?_⟩ | refine ⟨_, _, _, by with_unfolding_all rfl, by (first | assumption | (with_unfolding_all exact Nat.le_of_ble_eq_true rfl) | (apply Nat.le_trans; assumption; with_unfolding_all exact Nat.le_of_ble_eq_true rfl) | (apply Nat.lt_of_le_of_lt; assumption; with_unfolding_all exact Nat.le_of_ble_eq_true rfl) | ((try simp only [List.length_map, List.length_append, List.length_cons, List.length_nil, List.length_set, List.length_replicate, List.length_take, List.length_drop, List.length_reverse]); first | assumption | lia) | decide), ?_⟩ | (refine ite_t ?_ ?_; (first | assumption | (with_unfolding_all exact Nat.le_of_ble_eq_true rfl) | (apply Nat.le_trans; assumption; with_unfolding_all exact Nat.le_of_ble_eq_true rfl) | (apply Nat.lt_of_le_of_lt; assumption; with_unfolding_all exact Nat.le_of_ble_eq_true rfl) | ((try simp only [List.length_map, List.length_append, List.length_cons, List.length_nil, List.length_set, List.length_replicate, List.length_take, List.length_drop, List.length_reverse]); first | assumption | lia) | decide)) | refine k_ref (Prg.keep (by assumption) (by decide)) ?_ | refine k_bi ?_ | refine x_len ?_ | (refine div_nn ?_ ?_ ?_; (first | assumption | (with_unfolding_all exact Nat.le_of_ble_eq_true rfl) | (apply Nat.le_trans; assumption; with_unfolding_all exact Nat.le_of_ble_eq_true rfl) | (apply Nat.lt_of_le_of_lt; assumption; with_unfolding_all exact Nat.le_of_ble_eq_true rfl) | ((try simp only [List.length_map, List.length_append, List.length_cons, List.length_nil, List.length_set, List.length_replicate, List.length_take, List.length_drop, List.length_reverse]); first | assumption | lia) | decide); (first | assumption | (with_unfolding_all exact Nat.le_of_ble_eq_true rfl) | (apply Nat.le_trans; assumption; with_unfolding_all exact Nat.le_of_ble_eq_true rfl) | (apply Nat.lt_of_le_of_lt; assumption; with_unfolding_all exact Nat.le_of_ble_eq_true rfl) | ((try simp only [List.length_map, List.length_append, List.length_cons, List.length_nil, List.length_set, List.length_replicate, List.length_take, List.length_drop, List.length_reverse]); first | assumption | lia) | decide)) | refine lt_nn ?_ | refine ifExp ?_ | refine xa_name ?_ | refine as_cons ?_ | refine as_nil ?_ | refine b_len (by assumption) ?_)
          refine call_v (divrem_school_ok P (m := x) (n := n) hk (by lia) (by lia) (g2 n (List.mem_of_getElem? hn))) ?_
          rw [hx2]
          repeat (with_reducible first | refine e_nat ?_ | refine ⟨rfl, ?_⟩ | (refine x_ixt ?_; refine ⟨_, by with_unfolding_all rfl, by (first | assumption | (with_unfolding_all exact Nat.le_of_ble_eq_true rfl) | (apply Nat.le_trans; assumption; with_unfolding_all exact Nat.le_of_ble_eq_true rfl) | (apply Nat.lt_of_le_of_lt; assumption; with_unfolding_all exact Nat.le_of_ble_eq_true rfl) | ((try simp only [List.length_map, List.length_append, List.length_cons, List.length_nil, List.length_set, List.length_replicate, List.length_take, List.length_drop, List.length_reverse]); first | assumption | lia) | decide), ?_⟩))
          exact less_of
        · rw [if_neg hlt] at hx1
          repeat (with_reducible first | (refine x_name ?_; refine ⟨_, by with_unfolding_all rfl, ?_⟩) | refine l_cons ?_ | refine l_nil ?_ | refine sto_l ?_ | refine ⟨_, rfl, ?_⟩ | refine t_cmp ?_ | refine e_sub ?_ | refine e_call ?_ | refine x_ix ?_ | refine ⟨_, _, _, _, by with_unfolding_all rfl, by (first | assumption | with_unfolding_all assumption), by (first | assumption | (with_unfolding_all exact Nat.le_of_ble_eq_true rfl) | (apply Nat.le_trans; assumption; with_unfolding_all exact Nat.le_of_ble_eq_true rfl) | (apply Nat.lt_of_le_of_lt; assumption; with_unfolding_all exact Nat.le_of_ble_eq_true rfl) | ((try simp only [List.length_map, List.length_append, List.length_cons, List.length_nil, List.length_set, List.length_replicate, List.length_take, List.length_drop, List.length_reverse]); first | assumption | lia) | decide), ?_⟩ | refine ⟨_, _, _, by with_unfolding_all rfl, by (first | assumption | (with_unfolding_all exact Nat.le_of_ble_eq_true rfl) | (apply Nat.le_trans; assumption; with_unfolding_all exact Nat.le_of_ble_eq_true rfl) | (apply Nat.lt_of_le_of_lt; assumption; with_unfolding_all exact Nat.le_of_ble_eq_true rfl) | ((try simp only [List.length_map, List.length_append, List.length_cons, List.length_nil, List.length_set, List.length_replicate, List.length_take, List.length_drop, List.length_reverse]); first | assumption | lia) | decide), ?_⟩ | (refine ite_f ?_ ?_; (first | assumption | (with_unfolding_all exact Nat.le_of_ble_eq_true rfl) | (apply Nat.le_trans; assumption; with_unfolding_all exact Nat.le_of_ble_eq_true rfl) | (apply Nat.lt_of_le_of_lt; assumption; with_unfolding_all exact Nat.le_of_ble_eq_true rfl) | ((try simp only [List.length_map, List.length_append, List.length_cons, List.length_nil, List.length_set, List.length_replicate, List.length_take, List.length_drop, List.length_reverse]); first | assumption | lia) | decide)) | refine k_ref (Prg.keep (by assumption) (by decide)) ?_ | refine k_bi ?_ | refine x_len ?_ | refine lt_nn ?_ | refine ifExp ?_ | refine xa_name ?_ | refine as_cons ?_ | refine as_nil ?_ | refine b_len (by assumption) ?_)
          refine call_v (divrem_school_ok P (m := x) (n := n) hk (by lia) (by lia) (g2 n (List.mem_of_getElem? hn))) ?_
          rw [hx2]
          repeat (with_reducible first | refine e_nat ?_ | refine ⟨rfl, ?_⟩ | (refine x_ixt ?_; refine ⟨_, by with_unfolding_all rfl, by (first | assumption | (with_unfolding_all exact Nat.le_of_ble_eq_true rfl) | (apply Nat.le_trans; assumption; with_unfolding_all exact Nat.le_of_ble_eq_true rfl) | (apply Nat.lt_of_le_of_lt; assumption; with_unfolding_all exact Nat.le_of_ble_eq_true rfl) | ((try simp only [List.length_map, List.length_append, List.length_cons, List.length_nil, List.length_set, List.length_replicate, List.length_take, List.length_drop, List.length_reverse]); first | assumption | lia) | decide), ?_⟩))
          exact less_of
      · have e2 : l.mapIdx (fun _ n => num k (a % n)) = (l.map (a % ·)).map (num k) := by
          apply List.ext_getElem?
          intro i
          rw [List.getElem?_mapIdx, List.getElem?_map, List.getElem?_map]
          cases l[i]? <;> rfl
        rw [e2]
        refine .inl ?_
        repeat (with_reducible first | refine ⟨rfl, ?_⟩ | refine b_nil ?_)
        exact loop_next (next_of ⟨l.map (a % ·), rfl, fun h => absurd h (Nat.succ_ne_zero i), fun _ => ⟨l, hi, rfl⟩⟩)
  · rintro _ ⟨rs, rfl, h0, h1⟩
    obtain ⟨l, hl', rfl⟩ := h1 (by rw [List.length_reverse]; exact hpos)
    rw [List.length_reverse, List.getElem?_reverse (by lia), show (tree ns).length - 1 - ((tree ns).length - 1) = 0 by lia, hth] at hl'
    cases hl'
    repeat (with_reducible first | (refine x_name ?_; refine ⟨_, by with_unfolding_all rfl, ?_⟩) | refine s_return ?_ | refine b_ret ?_ | refine then_next ?_ | refine then_ret ?_)
    exact fin_val rfl
end
end CR
namespace CR
open PySem PySem.W PyProof.Rows
theorem cs_le : ∀ {ss ms : List Nat}, (∀ (i s m : Nat), ss[i]? = some s → ms[i]? = some m → s ≤ m) → cs ss ms ≤ ms.length * prod ms
  | [], _, _ => by simp [cs]
  | _ :: _, [], _ => by simp [cs]
  | s :: ss, m :: ms, h => by
    have h1 := cs_le (ss := ss) (ms := ms) fun i a b ha hb => h (i + 1) a b (by simpa using ha) (by simpa using hb)
    have h2 := h 0 s m rfl rfl
    rw [cs, prod, List.length_cons, Nat.add_mul, Nat.one_mul]
    have h3 : s * prod ms ≤ m * prod ms := Nat.mul_le_mul_right _ h2
    have h4 : m * cs ss ms ≤ ms.length * (m * prod ms) := by
      rw [Nat.mul_left_comm]; exact Nat.mul_le_mul_left _ h1
    lia
def ones (ms : List Nat) : List Nat := List.replicate ms.length 1
/-- what the told residues are made of -/
def Told (O : Nat) (ps : List (Nat × Nat)) (ss : List Nat) : Prop := ∀ (i : Nat) (p : Nat × Nat), i < ss.length → ps[i]? = some p → ∃ f s, ss[i]? = some s ∧ O % p.2 * f % p.2 = 1 % p.2 ∧ s = p.1 % p.2 * f % p.2
theorem Told.snoc {O : Nat} {ps : List (Nat × Nat)} {ss : List Nat} {p : Nat × Nat} {f s : Nat} (h : Told O ps ss) (hp : ps[ss.length]? = some p) (h1 : O % p.2 * f % p.2 = 1 % p.2) (h2 : s = p.1 % p.2 * f % p.2) : Told O ps (ss ++ [s]) := fun i q hi hq => by
  rw [List.length_append, List.length_singleton] at hi
  by_cases e : i = ss.length
  · subst e
    rw [hp] at hq
    cases hq
    exact ⟨f, s, by simp, h1, h2⟩
  · obtain ⟨f', s', h3, h4⟩ := h i q (by lia) hq
    exact ⟨f', s', by rw [List.getElem?_append_left (by lia)]; exact h3, h4⟩
section
variable {prog : Program} {w : World} {K : Frag} {ad : Nat → Addr}
def Chin (k : Nat) (ps : List (Nat × Nat)) (r : Res) (_ : List (List PV)) : Prop := ∃ ss, ss.length = ps.length ∧ Told (cs (ones (ps.map (·.2))) (ps.map (·.2))) ps ss ∧ r = .val (.tup [num k (cs ss (ps.map (·.2)) % prod (ps.map (·.2))), num k (prod (ps.map (·.2)))])
theorem chinese_ok (P : Prg K ad) {k : Nat} (hk : 1 ≤ k ∧ k ≤ 20) (ps : List (Nat × Nat)) (hl : ps.length ≤ 100) (hr : ∀ p ∈ ps, p.1 < 2 ^ 60 ∧ 0 < p.2 ∧ p.2 < 1000) (hb : prod (ps.map (·.2)) < 2 ^ 60)
    (hinv : ∀ p ∈ ps, ∃ f, f < p.2 ∧ cs (ones (ps.map (·.2))) (ps.map (·.2)) % p.2 * f % p.2 = 1 % p.2) :
    FCall prog w K 6 (ad 19) [] [.list (ps.map (pr k)), .int k, .ref (ad 22), .ref (ad 28), .ref (ad 35)] (Chin k ps) := by
  refine enter (P.fn 19 (by decide)) [Nm "pairs", Nm "w", Nm "mul", Nm "divrem", Nm "inverse_of"] (by (intro nm q doc pm an cdv ct vals h; obtain ⟨a, b, c, d, e, e'⟩ := len5 h; subst e'; with_unfolding_all rfl)) (fun _ => rfl) (by decide) rfl [(Nm "pairs", .pv (.list (ps.map (pr k)))), (Nm "w", pn k), (Nm "mul", .pv (.ref (ad 22))), (Nm "divrem", .pv (.ref (ad 28))), (Nm "inverse_of", .pv (.ref (ad 35)))] [] rfl rfl ?_
  intro bs L q cd hl0 hc
  refine let C : Cx := _; let Z : RF → St → Prop := _; (show WB C _ _ Z from ?_)
  obtain ⟨ms, hms⟩ : ∃ ms, ps.map (·.2) = ms := ⟨_, rfl⟩
  obtain ⟨O, hO⟩ : ∃ O, cs (ones ms) ms = O := ⟨_, rfl⟩
  rw [hms] at hb hinv
  rw [hO] at hinv
  have hml : ms.length = ps.length := by rw [← hms, List.length_map]
  have hmp : ∀ n ∈ ms, 0 < n ∧ n < 1000 := fun n hn => by
    rw [← hms] at hn
    obtain ⟨p, hp, rfl⟩ := List.mem_map.mp hn
    exact (hr p hp).2
  have hOb : O < 2 ^ 200 := by
    have := cs_le (ss := ones ms) (ms := ms) fun i s m h1 h2 => by
      unfold ones at h1
      have := List.eq_of_mem_replicate (List.mem_of_getElem? h1)
      rw [this]; exact (hmp m (List.mem_of_getElem? h2)).1
    rw [hO] at this
    have h2 : ms.length * prod ms ≤ 100 * 2 ^ 60 := Nat.mul_le_mul (by lia) (by lia)
    lia
  refine b_then ?_
  repeat (with_reducible first | (refine x_name ?_; refine ⟨_, by with_unfolding_all rfl, ?_⟩) | refine e_nat ?_ | refine l_cons ?_ | refine l_nil ?_ | refine ⟨_, rfl, ?_⟩ | refine t_cmp ?_ | refine e_call ?_ | refine ⟨_, _, _, by with_unfolding_all rfl, by (first | assumption | (with_unfolding_all exact Nat.le_of_ble_eq_true rfl) | (apply Nat.le_trans; assumption; with_unfolding_all exact Nat.le_of_ble_eq_true rfl) | (apply Nat.lt_of_le_of_lt; assumption; with_unfolding_all exact Nat.le_of_ble_eq_true rfl) | ((try simp only [List.length_map, List.length_append, List.length_cons, List.length_nil, List.length_set, List.length_replicate, List.length_take, List.length_drop, List.length_reverse]); first | assumption | lia) | decide), ?_⟩ | refine s_if ?_ | refine k_bi ?_ | refine x_len ?_ | refine eq_nn ?_ | refine b_len (by assumption) ?_)
  refine ite_d (fun h0 => ?_) (fun h0 => ?_)
  · have : ps = [] := List.length_eq_zero_iff.mp h0
    subst this
    repeat (with_reducible first | refine l_cons ?_ | refine l_nil ?_ | refine s_return ?_ | refine b_ret ?_ | refine e_list ?_ | refine e_tuple ?_ | refine ⟨[], rfl, by decide, ?_⟩)
    refine .inl ?_
    repeat (with_reducible first | refine e_nat ?_ | refine l_cons ?_ | refine l_nil ?_ | refine e_list ?_ | refine ⟨[_], by with_unfolding_all rfl, by (first | assumption | (with_unfolding_all exact Nat.le_of_ble_eq_true rfl) | (apply Nat.le_trans; assumption; with_unfolding_all exact Nat.le_of_ble_eq_true rfl) | (apply Nat.lt_of_le_of_lt; assumption; with_unfolding_all exact Nat.le_of_ble_eq_true rfl) | ((try simp only [List.length_map, List.length_append, List.length_cons, List.length_nil, List.length_set, List.length_replicate, List.length_take, List.length_drop, List.length_reverse]); first | assumption | lia) | decide), ?_⟩)
    refine .inl ?_
    repeat (with_reducible first | refine l_nil ?_ | refine then_ret ?_ | refine ⟨[_, _], by with_unfolding_all rfl, by (first | assumption | (with_unfolding_all exact Nat.le_of_ble_eq_true rfl) | (apply Nat.le_trans; assumption; with_unfolding_all exact Nat.le_of_ble_eq_true rfl) | (apply Nat.lt_of_le_of_lt; assumption; with_unfolding_all exact Nat.le_of_ble_eq_true rfl) | ((try simp only [List.length_map, List.length_append, List.length_cons, List.length_nil, List.length_set, List.length_replicate, List.length_take, List.length_drop, List.length_reverse]); first | assumption | lia) | decide), ?_⟩)
    refine fin_val ⟨[], rfl, fun i p hi => absurd hi (Nat.not_lt_zero i), ?_⟩
    rw [show prod (List.map (·.2) ([] : List (Nat × Nat))) = 1 from rfl, Nat.mod_one, num, num, limbs_zero, num_one hk.1]; rfl
  · refine b_nil (then_next (b_next (s_assign_comp ⟨rfl, .inl rfl⟩ ?_)))
    repeat (with_reducible first | (refine x_name ?_; refine ⟨_, by with_unfolding_all rfl, ?_⟩) | refine ⟨_, rfl, ?_⟩ | refine it_list ?_)
    refine comp_inv (g := fun p => num k p.2) [] (by lia) ?_ ?_
    · intro C0 bs' h1 h2 i p hp
      repeat (with_reducible first | (refine x_name ?_; refine ⟨_, by with_unfolding_all rfl, ?_⟩) | refine ⟨rfl, ?_⟩ | refine sto_l ?_ | refine xa_name ?_ | refine a_tup ?_ | refine as_consm ?_ | refine as_nilm ?_)
      exact less_of
    · have e : ps.map (fun p => num k p.2) = ms.map (num k) := by rw [← hms, List.map_map]; rfl
      rw [e]
      refine .inl ⟨rfl, ?_⟩
      repeat (with_reducible first | (refine x_name ?_; refine ⟨_, by with_unfolding_all rfl, ?_⟩) | refine l_cons ?_ | refine l_nil ?_ | refine sto_l ?_ | refine e_call ?_ | refine x_assign ?_ | refine b_next ?_ | refine k_ref (Prg.keep (by assumption) (by decide)) ?_ | (refine e_glob (g_product_tree (by assumption)) ?_))
      refine call_n (product_tree_ok P hk ms (by lia) (fun n hn => (hmp n hn).1) (by lia)) (.inl ?_)
      repeat (with_reducible first | refine e_nat ?_ | refine l_cons ?_ | refine l_nil ?_ | refine e_bin ?_ | refine ⟨rfl, ?_⟩ | refine sto_l ?_ | refine e_call ?_ | refine x_assign ?_ | refine b_next ?_ | refine k_ref (Prg.keep (by assumption) (by decide)) ?_ | refine e_list ?_ | refine ⟨[_], by with_unfolding_all rfl, by (first | assumption | (with_unfolding_all exact Nat.le_of_ble_eq_true rfl) | (apply Nat.le_trans; assumption; with_unfolding_all exact Nat.le_of_ble_eq_true rfl) | (apply Nat.lt_of_le_of_lt; assumption; with_unfolding_all exact Nat.le_of_ble_eq_true rfl) | ((try simp only [List.length_map, List.length_append, List.length_cons, List.length_nil, List.length_set, List.length_replicate, List.length_take, List.length_drop, List.length_reverse]); first | assumption | lia) | decide), ?_⟩ | (refine e_glob (g_remainder_tree (by assumption)) ?_) | (refine e_glob (g_crossed (by assumption)) ?_))
      refine .inl ?_
      repeat (with_reducible first | refine l_nil ?_ | refine ⟨[_], by with_unfolding_all rfl, by (first | assumption | (with_unfolding_all exact Nat.le_of_ble_eq_true rfl) | (apply Nat.le_trans; assumption; with_unfolding_all exact Nat.le_of_ble_eq_true rfl) | (apply Nat.lt_of_le_of_lt; assumption; with_unfolding_all exact Nat.le_of_ble_eq_true rfl) | ((try simp only [List.length_map, List.length_append, List.length_cons, List.length_nil, List.length_set, List.length_replicate, List.length_take, List.length_drop, List.length_reverse]); first | assumption | lia) | decide), ?_⟩)
      refine .inl ?_
      repeat (with_reducible first | (refine x_name ?_; refine ⟨_, by with_unfolding_all rfl, ?_⟩) | refine l_cons ?_ | refine l_nil ?_ | refine e_call ?_ | refine ⟨_, _, _, by with_unfolding_all rfl, by (first | assumption | (with_unfolding_all exact Nat.le_of_ble_eq_true rfl) | (apply Nat.le_trans; assumption; with_unfolding_all exact Nat.le_of_ble_eq_true rfl) | (apply Nat.lt_of_le_of_lt; assumption; with_unfolding_all exact Nat.le_of_ble_eq_true rfl) | ((try simp only [List.length_map, List.length_append, List.length_cons, List.length_nil, List.length_set, List.length_replicate, List.length_take, List.length_drop, List.length_reverse]); first | assumption | lia) | decide), ?_⟩ | refine k_bi ?_ | refine x_len ?_ | refine b_len (by assumption) ?_)
      have e1 : List.replicate ((ps.length : Nat) : Int).toNat (row [1]) = (ones ms).map (num k) := by
        rw [Int.toNat_natCast, ones, List.map_replicate, hml, num, num_one hk.1]
      refine mul_li (x := row [1]) rfl (Int.natCast_nonneg _) (by lia) (.inl ?_)
      rw [e1]
      have hol : (ones ms).length = ms.length := List.length_replicate
      have hlen1 : 1 ≤ ms.length ∧ ms.length ≤ 100 := by lia
      have hpos : ∀ n ∈ ms, 0 < n := fun n hn => (hmp n hn).1
      repeat (with_reducible first | (refine x_name ?_; refine ⟨_, by with_unfolding_all rfl, ?_⟩) | refine l_cons ?_ | refine l_nil ?_)
      refine call_v (crossed_ok P hk (ones ms) ms hlen1 hol hpos (by rw [hO]; exact hOb) (by lia)) ?_
      rw [hO]
      repeat (with_reducible first | (refine x_name ?_; refine ⟨_, by with_unfolding_all rfl, ?_⟩) | refine l_cons ?_ | refine l_nil ?_)
      refine call_v (remainder_tree_ok P (a := O) hk ms hlen1 hOb hpos (by lia)) ?_
      repeat (with_reducible first | refine l_nil ?_ | refine ⟨rfl, ?_⟩ | refine sto_l ?_ | refine x_assign ?_ | refine b_next ?_ | refine e_list ?_ | refine ⟨[], rfl, by decide, ?_⟩)
      refine .inr ?_
      repeat (with_reducible first | (refine x_name ?_; refine ⟨_, by with_unfolding_all rfl, ?_⟩) | refine ⟨rfl, ?_⟩ | refine ⟨_, rfl, ?_⟩ | refine b_for ?_ | refine s_for ?_ | refine it_zip ?_ | refine b_zip (by assumption) ?_)
      refine for_zip (by rw [List.length_map]; exact hml.symm) (fun i σ => ∃ ss, σ = ⟨[(Nm "pairs", .pv (.list (ps.map (pr k)))), (Nm "w", pn k), (Nm "mul", .pv (.ref (ad 22))), (Nm "divrem", .pv (.ref (ad 28))), (Nm "inverse_of", .pv (.ref (ad 35))), (Nm "moduli", .pv (lev k ms)), (Nm "levels", .pv (.list ((tree ms).map (lev k)))), (Nm "others", .pv (lev k (ms.map (O % ·)))), (Nm "sums", .own 0)], [some (ss.map (num k))]⟩ ∧ ss.length = i ∧ Told O ps ss) ⟨[], rfl, rfl, fun i p hi => absurd hi (Nat.not_lt_zero i)⟩ ?_ ?_
      · rintro i p o hp ho _ ⟨ss, rfl, hsl, ht⟩ bs' _ _
        obtain ⟨r1, r2, r3⟩ := hr p (List.mem_of_getElem? hp)
        obtain ⟨f0, hf0⟩ := hinv p (List.mem_of_getElem? hp)
        have hm : ms[i]? = some p.2 := by rw [← hms, List.getElem?_map, hp]; rfl
        rw [List.getElem?_map, hm] at ho
        simp only [Option.map_some, Option.some.injEq] at ho
        subst ho
        have hil : i < ps.length := (List.getElem?_eq_some_iff.mp hp).1
        have lp2 := limbs_len2 (k := 10) hk.1 (show p.2 < 2 ^ 10 by lia)
        have lp1 := limbs_len2 hk.1 r1
        have lone := limbs_len2 (k := 1) (n := 1) hk.1 (by decide)
        have hlt : ∀ x, x % p.2 < p.2 := fun x => Nat.mod_lt _ r2
        repeat (with_reducible first | (refine x_name ?_; refine ⟨_, by with_unfolding_all rfl, ?_⟩) | refine e_nat ?_ | refine l_cons ?_ | refine l_nil ?_ | refine sto_l ?_ | refine t_cmp ?_ | refine e_call ?_ | refine s_if ?_ | refine b_if ?_ | refine k_ref (Prg.keep (by assumption) (by decide)) ?_ | refine e_list ?_ | refine xa_name ?_ | refine a_tup ?_ | refine as_cons ?_ | refine as_nil ?_ | refine as_consm ?_ | refine as_nilm ?_ | refine ⟨[_], by with_unfolding_all rfl, by (first | assumption | (with_unfolding_all exact Nat.le_of_ble_eq_true rfl) | (apply Nat.le_trans; assumption; with_unfolding_all exact Nat.le_of_ble_eq_true rfl) | (apply Nat.lt_of_le_of_lt; assumption; with_unfolding_all exact Nat.le_of_ble_eq_true rfl) | ((try simp only [List.length_map, List.length_append, List.length_cons, List.length_nil, List.length_set, List.length_replicate, List.length_take, List.length_drop, List.length_reverse]); first | assumption | lia) | decide), ?_⟩ | (refine e_glob (g_compare (by assumption)) ?_))
        refine .inl ?_
        repeat (with_reducible first | refine l_nil ?_)
        refine call_v (compare_ok P (m := p.2) (n := 1) (two_le_pow hk.1) (by lia) (by lia)) ?_ (hrs := by rw [num_one hk.1]; rfl)
        repeat (with_reducible first | refine e_nat ?_)
        by_cases h1 : p.2 = 1
        · have ec : cmp p.2 1 = ((0 : Nat) : Int) := by rw [h1]; rfl
          rw [ec]
          repeat (with_reducible first | (refine x_name ?_; refine ⟨_, by with_unfolding_all rfl, ?_⟩) | refine l_nil ?_ | refine ⟨_, rfl, ?_⟩ | refine s_expr ?_ | refine b_next ?_ | (refine ite_t ?_ ?_; (first | assumption | (with_unfolding_all exact Nat.le_of_ble_eq_true rfl) | (apply Nat.le_trans; assumption; with_unfolding_all exact Nat.le_of_ble_eq_true rfl) | (apply Nat.lt_of_le_of_lt; assumption; with_unfolding_all exact Nat.le_of_ble_eq_true rfl) | ((try simp only [List.length_map, List.length_append, List.length_cons, List.length_nil, List.length_set, List.length_replicate, List.length_take, List.length_drop, List.length_reverse]); first | assumption | lia) | decide)) | refine eq_nn ?_ | refine e_list ?_ | refine x_append ?_ | refine own_q ?_ | refine ⟨⟨_, by with_unfolding_all rfl⟩, ?_⟩ | refine ⟨[], rfl, by decide, ?_⟩)
          refine .inl ?_
          have e0 : PV.list [] = num k 0 := by rw [num, limbs_zero]; rfl
          rw [e0]
          skip
          refine push_f (num k) rfl (by lia) ?_
          repeat (with_reducible first | refine ⟨rfl, ?_⟩ | refine s_continue ?_ | refine b_continue ?_ | refine then_cont ?_ | refine loop_cont ?_)
          refine next_of ⟨ss ++ [0], rfl, by simp [hsl], ht.snoc (by rw [hsl]; exact hp) hf0.2 ?_⟩
          rw [h1, Nat.mod_one]
        · have ec : cmp p.2 1 = ((1 : Nat) : Int) := by rw [cmp, if_neg (by lia), if_pos (by lia)]; rfl
          rw [ec]
          have hOm := hlt O
          have hrm := hlt p.1
          repeat (with_reducible first | (refine x_name ?_; refine ⟨_, by with_unfolding_all rfl, ?_⟩) | refine l_cons ?_ | refine l_nil ?_ | refine sto_l ?_ | refine ⟨_, rfl, ?_⟩ | refine e_sub ?_ | refine e_call ?_ | refine x_assign ?_ | refine b_nil ?_ | refine b_next ?_ | refine then_next ?_ | (refine ite_f ?_ ?_; (first | assumption | (with_unfolding_all exact Nat.le_of_ble_eq_true rfl) | (apply Nat.le_trans; assumption; with_unfolding_all exact Nat.le_of_ble_eq_true rfl) | (apply Nat.lt_of_le_of_lt; assumption; with_unfolding_all exact Nat.le_of_ble_eq_true rfl) | ((try simp only [List.length_map, List.length_append, List.length_cons, List.length_nil, List.length_set, List.length_replicate, List.length_take, List.length_drop, List.length_reverse]); first | assumption | lia) | decide)) | refine k_ref (Prg.keep (by assumption) (by decide)) ?_ | refine eq_nn ?_)
          refine call_v (divrem_school_ok P (m := p.1) (n := p.2) hk (by lia) (by lia) r2) ?_
          repeat (with_reducible first | (refine x_name ?_; refine ⟨_, by with_unfolding_all rfl, ?_⟩) | refine e_nat ?_ | refine l_cons ?_ | refine l_nil ?_ | refine e_call ?_ | (refine x_ixt ?_; refine ⟨_, by with_unfolding_all rfl, by (first | assumption | (with_unfolding_all exact Nat.le_of_ble_eq_true rfl) | (apply Nat.le_trans; assumption; with_unfolding_all exact Nat.le_of_ble_eq_true rfl) | (apply Nat.lt_of_le_of_lt; assumption; with_unfolding_all exact Nat.le_of_ble_eq_true rfl) | ((try simp only [List.length_map, List.length_append, List.length_cons, List.length_nil, List.length_set, List.length_replicate, List.length_take, List.length_drop, List.length_reverse]); first | assumption | lia) | decide), ?_⟩) | refine k_ref (Prg.keep (by assumption) (by decide)) ?_)
          refine call_f (ps := [num k (O % p.2), num k p.2, .int k]) rfl (law_inverse_ok P (v := O % p.2) (m := p.2) hk (Nat.lt_trans hOm (Nat.lt_trans r3 (by decide))) r3 ⟨f0, hf0⟩) (Nat.le_of_ble_eq_true rfl) ?_
          rintro _ ⟨f, hf1, hf2, rfl⟩
          refine .inl ?_
          have lr := limbs_len2 (k := 10) hk.1 (show p.1 % p.2 < 2 ^ 10 by lia)
          have lf := limbs_len2 (k := 10) hk.1 (show f < 2 ^ 10 by lia)
          have lrf := limbs_len2 (k := 20) hk.1 (show p.1 % p.2 * f < 2 ^ 20 by
            have : p.1 % p.2 * f ≤ 1000 * 1000 := Nat.mul_le_mul (by lia) (by lia)
            lia)
          repeat (with_reducible first | (refine x_name ?_; refine ⟨_, by with_unfolding_all rfl, ?_⟩) | refine l_cons ?_ | refine l_nil ?_)
          refine call_v (mul_school_ok P (m := p.1 % p.2) (n := f) hk (by lia) (by lia)) ?_
          repeat (with_reducible first | (refine x_name ?_; refine ⟨_, by with_unfolding_all rfl, ?_⟩) | refine l_cons ?_ | refine l_nil ?_ | refine ⟨rfl, ?_⟩ | refine e_sub ?_ | refine e_call ?_ | refine s_expr ?_ | refine b_next ?_ | refine k_ref (Prg.keep (by assumption) (by decide)) ?_ | refine x_append ?_ | refine own_q ?_ | refine ⟨⟨_, by with_unfolding_all rfl⟩, ?_⟩)
          refine call_v (divrem_school_ok P (m := p.1 % p.2 * f) (n := p.2) hk (by lia) (by lia) r2) ?_
          repeat (with_reducible first | refine e_nat ?_ | (refine x_ixt ?_; refine ⟨_, by with_unfolding_all rfl, by (first | assumption | (with_unfolding_all exact Nat.le_of_ble_eq_true rfl) | (apply Nat.le_trans; assumption; with_unfolding_all exact Nat.le_of_ble_eq_true rfl) | (apply Nat.lt_of_le_of_lt; assumption; with_unfolding_all exact Nat.le_of_ble_eq_true rfl) | ((try simp only [List.length_map, List.length_append, List.length_cons, List.length_nil, List.length_set, List.length_replicate, List.length_take, List.length_drop, List.length_reverse]); first | assumption | lia) | decide), ?_⟩))
          refine push_f (num k) rfl (by lia) ?_
          repeat (with_reducible first | refine ⟨rfl, ?_⟩ | refine b_nil ?_)
          exact loop_next (next_of ⟨_, rfl, by simp [hsl], ht.snoc (by rw [hsl]; exact hp) hf2 rfl⟩)
      · rintro _ ⟨ss, rfl, hsl, ht⟩
        have hsm : ∀ (i s m : Nat), ss[i]? = some s → ms[i]? = some m → s ≤ m := fun i s m h1 h2 => by
          have hi : i < ss.length := (List.getElem?_eq_some_iff.mp h1).1
          obtain ⟨p, hp⟩ : ∃ p, ps[i]? = some p := ⟨_, List.getElem?_eq_getElem (by lia)⟩
          have hm : ms[i]? = some p.2 := by rw [← hms, List.getElem?_map, hp]; rfl
          obtain ⟨f, s', h3, h4, h5⟩ := ht i p hi hp
          rw [h1] at h3; cases h3
          rw [hm] at h2; cases h2
          have := Nat.mod_lt (p.1 % p.2 * f) (hr p (List.mem_of_getElem? hp)).2.1
          lia
        have hcb : cs ss ms < 2 ^ 200 := by
          have h1 := cs_le hsm
          have h2 : ms.length * prod ms ≤ 100 * 2 ^ 60 := Nat.mul_le_mul (by lia) (by lia)
          lia
        have hpp := prod_pos hpos
        have hlast := tree_last ms.length ms (Nat.le_refl _) (fun e => by rw [e] at hlen1; simp at hlen1)
        have htl := tree_len ms.length ms (Nat.le_refl _)
        have lcs := limbs_len2 hk.1 hcb
        have lpr := limbs_len2 hk.1 hb
        have h00 : [prod ms][0]? = some (prod ms) := rfl
        refine then_next (W.freeze (k := 0) (xs := ss.map (num k)) rfl (by rw [hl0]; exact Nat.zero_le _) (W.state [(Nm "w", pn k), (Nm "mul", .pv (.ref (ad 22))), (Nm "divrem", .pv (.ref (ad 28))), (Nm "levels", .pv (.list ((tree ms).map (lev k)))), (Nm "sums", .pv (lev k ss))] [none] ?_))
        repeat (with_reducible first | (refine x_name ?_; refine ⟨_, by with_unfolding_all rfl, ?_⟩) | refine l_cons ?_ | refine l_nil ?_ | refine e_sub ?_ | refine e_call ?_ | refine s_return ?_ | refine b_ret ?_ | refine k_ref (Prg.keep (by assumption) (by decide)) ?_ | refine e_tuple ?_ | (refine e_glob (g_crossed (by assumption)) ?_))
        refine call_v (crossed_ok P hk ss ms hlen1 (by lia) hpos hcb (by lia)) ?_
        repeat (with_reducible first | (refine x_name ?_; refine ⟨_, by with_unfolding_all rfl, ?_⟩) | refine e_nat ?_ | refine l_cons ?_ | refine l_nil ?_ | refine e_sub ?_ | (refine x_ixp ?_; refine ⟨_, _, by with_unfolding_all rfl, by with_unfolding_all rfl, by (first | assumption | (with_unfolding_all exact Nat.le_of_ble_eq_true rfl) | (apply Nat.le_trans; assumption; with_unfolding_all exact Nat.le_of_ble_eq_true rfl) | (apply Nat.lt_of_le_of_lt; assumption; with_unfolding_all exact Nat.le_of_ble_eq_true rfl) | ((try simp only [List.length_map, List.length_append, List.length_cons, List.length_nil, List.length_set, List.length_replicate, List.length_take, List.length_drop, List.length_reverse]); first | assumption | lia) | decide), ?_⟩) | refine ⟨_, _, _, _, by with_unfolding_all rfl, by (first | assumption | with_unfolding_all assumption), by (first | assumption | (with_unfolding_all exact Nat.le_of_ble_eq_true rfl) | (apply Nat.le_trans; assumption; with_unfolding_all exact Nat.le_of_ble_eq_true rfl) | (apply Nat.lt_of_le_of_lt; assumption; with_unfolding_all exact Nat.le_of_ble_eq_true rfl) | ((try simp only [List.length_map, List.length_append, List.length_cons, List.length_nil, List.length_set, List.length_replicate, List.length_take, List.length_drop, List.length_reverse]); first | assumption | lia) | decide), ?_⟩ | refine x_ixl ?_ | refine e_neg1 ?_)
        refine call_v (divrem_school_ok P (m := cs ss ms) (n := prod ms) hk (by lia) (by lia) hpp) ?_
        repeat (with_reducible first | (refine x_name ?_; refine ⟨_, by with_unfolding_all rfl, ?_⟩) | refine e_nat ?_ | refine l_cons ?_ | refine l_nil ?_ | refine e_sub ?_ | (refine x_ixt ?_; refine ⟨_, by with_unfolding_all rfl, by (first | assumption | (with_unfolding_all exact Nat.le_of_ble_eq_true rfl) | (apply Nat.le_trans; assumption; with_unfolding_all exact Nat.le_of_ble_eq_true rfl) | (apply Nat.lt_of_le_of_lt; assumption; with_unfolding_all exact Nat.le_of_ble_eq_true rfl) | ((try simp only [List.length_map, List.length_append, List.length_cons, List.length_nil, List.length_set, List.length_replicate, List.length_take, List.length_drop, List.length_reverse]); first | assumption | lia) | decide), ?_⟩) | (refine x_ixp ?_; refine ⟨_, _, by with_unfolding_all rfl, by with_unfolding_all rfl, by (first | assumption | (with_unfolding_all exact Nat.le_of_ble_eq_true rfl) | (apply Nat.le_trans; assumption; with_unfolding_all exact Nat.le_of_ble_eq_true rfl) | (apply Nat.lt_of_le_of_lt; assumption; with_unfolding_all exact Nat.le_of_ble_eq_true rfl) | ((try simp only [List.length_map, List.length_append, List.length_cons, List.length_nil, List.length_set, List.length_replicate, List.length_take, List.length_drop, List.length_reverse]); first | assumption | lia) | decide), ?_⟩) | refine ⟨_, _, _, _, by with_unfolding_all rfl, by (first | assumption | with_unfolding_all assumption), by (first | assumption | (with_unfolding_all exact Nat.le_of_ble_eq_true rfl) | (apply Nat.le_trans; assumption; with_unfolding_all exact Nat.le_of_ble_eq_true rfl) | (apply Nat.lt_of_le_of_lt; assumption; with_unfolding_all exact Nat.le_of_ble_eq_true rfl) | ((try simp only [List.length_map, List.length_append, List.length_cons, List.length_nil, List.length_set, List.length_replicate, List.length_take, List.length_drop, List.length_reverse]); first | assumption | lia) | decide), ?_⟩ | refine then_ret ?_ | refine x_ixl ?_ | refine e_neg1 ?_ | refine ⟨[_, _], by with_unfolding_all rfl, by (first | assumption | (with_unfolding_all exact Nat.le_of_ble_eq_true rfl) | (apply Nat.le_trans; assumption; with_unfolding_all exact Nat.le_of_ble_eq_true rfl) | (apply Nat.lt_of_le_of_lt; assumption; with_unfolding_all exact Nat.le_of_ble_eq_true rfl) | ((try simp only [List.length_map, List.length_append, List.length_cons, List.length_nil, List.length_set, List.length_replicate, List.length_take, List.length_drop, List.length_reverse]); first | assumption | lia) | decide), ?_⟩)
        refine fin_val ⟨ss, hsl, ?_, ?_⟩
        · rw [hms, hO]; exact ht
        · rw [hms]
end
end CR
namespace CR
def bas : List Nat := [16, 27, 25, 49, 11, 13, 17, 1, 19]
def Cop (a b : Nat) : Prop := Nat.gcd a b = 1
theorem bas_apart : bas.Pairwise Cop := by unfold bas Cop; decide
theorem perm_erase : ∀ {l : List Nat} {i x : Nat}, l[i]? = some x → l.Perm (x :: l.eraseIdx i)
  | [], _, _, h => by simp at h
  | y :: l, 0, x, h => by
    simp at h
    subst h
    exact List.Perm.refl _
  | y :: l, i + 1, x, h => by
    rw [List.getElem?_cons_succ] at h
    exact ((perm_erase h).cons y).trans (List.Perm.swap x y _)
/-- what the picks come to -/
structure Picked (ms left : List Nat) : Prop where
  perm : bas.Perm (ms ++ left)
theorem Picked.pick {ms left : List Nat} {i x : Nat} (h : Picked ms left) (hx : left[i]? = some x) : Picked (ms ++ [x]) (left.eraseIdx i) :=
  ⟨h.perm.trans (((perm_erase hx).append_left ms).trans (by rw [List.append_assoc]; exact List.Perm.refl _))⟩
theorem Picked.apart {ms left : List Nat} (h : Picked ms left) : ms.Pairwise Cop := by
  have h1 := (h.perm.pairwise_iff (fun {a b} (e : Cop a b) => show Cop b a from (Nat.gcd_comm b a).trans e)).mp bas_apart
  exact (List.pairwise_append.mp h1).1
theorem Picked.mem {ms left : List Nat} (h : Picked ms left) : ∀ m ∈ ms, m ∈ bas := fun m hm => h.perm.mem_iff.mpr (List.mem_append_left _ hm)
theorem bas_small : ∀ m ∈ bas, 0 < m ∧ m ≤ 49 := by unfold bas; decide
theorem prod_le {b : Nat} : ∀ {ns : List Nat}, (∀ n ∈ ns, n ≤ b) → prod ns ≤ b ^ ns.length
  | [], _ => by simp [prod]
  | n :: ns, h => by
    rw [prod, List.length_cons, Nat.pow_succ, Nat.mul_comm]
    exact Nat.mul_le_mul (prod_le fun x hx => h x (List.mem_cons_of_mem _ hx)) (h n List.mem_cons_self)
theorem cop_prod {m : Nat} : ∀ {ns : List Nat}, (∀ n ∈ ns, Nat.gcd n m = 1) → Nat.gcd (prod ns) m = 1
  | [], _ => by simp [prod]
  | n :: ns, h => by
    rw [prod]
    exact Nat.Coprime.mul_left (h n List.mem_cons_self) (cop_prod fun x hx => h x (List.mem_cons_of_mem _ hx))
/-- all the others' terms fall away -/
theorem cs_mod : ∀ (ss ms : List Nat) (i s m : Nat), ss.length = ms.length → ss[i]? = some s → ms[i]? = some m → ∃ c d, cs ss ms = s * c + m * d ∧ c * m = prod ms ∧ c = prod (ms.eraseIdx i)
  | [], ms, i, s, m, hl, h1, h2 => by simp at h1
  | x :: ss, [], i, s, m, hl, h1, h2 => by simp at h2
  | x :: ss, y :: ms, 0, s, m, hl, h1, h2 => by
    simp at h1 h2
    subst h1 h2
    exact ⟨prod ms, cs ss ms, rfl, by rw [prod, Nat.mul_comm], rfl⟩
  | x :: ss, y :: ms, i + 1, s, m, hl, h1, h2 => by
    rw [List.getElem?_cons_succ] at h1 h2
    obtain ⟨c, d, e1, e2, e3⟩ := cs_mod ss ms i s m (by simpa using hl) h1 h2
    refine ⟨y * c, x * c + y * d, ?_, ?_, by rw [List.eraseIdx_cons_succ, prod, e3]⟩
    · rw [cs, e1, ← e2, Nat.mul_add, Nat.mul_add]
      have a1 : x * (c * m) = m * (x * c) := by rw [Nat.mul_comm m, Nat.mul_assoc]
      have a2 : y * (s * c) = s * (y * c) := Nat.mul_left_comm _ _ _
      have a3 : y * (m * d) = m * (y * d) := Nat.mul_left_comm _ _ _
      lia
    · rw [prod, Nat.mul_assoc, e2]

def invOk (m : Nat) : Bool := (List.range m).all fun x => Nat.gcd x m != 1 || (List.range m).any fun f => x * f % m == 1 % m
theorem bas_inv : bas.all invOk = true := by decide +kernel
theorem inv_ex {m x : Nat} (hm : m ∈ bas) (hx : Nat.gcd x m = 1) : ∃ f, f < m ∧ x % m * f % m = 1 % m := by
  have h1 := List.all_eq_true.mp bas_inv m hm
  have hm0 := (bas_small m hm).1
  unfold invOk at h1
  have h2 := List.all_eq_true.mp h1 (x % m) (List.mem_range.mpr (Nat.mod_lt _ hm0))
  have h3 : Nat.gcd (x % m) m = 1 := by rw [← Nat.gcd_rec, Nat.gcd_comm]; exact hx
  simp only [h3, bne_self_eq_false, Bool.false_or, List.any_eq_true, List.mem_range, beq_iff_eq] at h2
  exact h2
theorem apart_erase {ms : List Nat} {i m : Nat} (h : ms.Pairwise Cop) (hi : ms[i]? = some m) : ∀ n ∈ ms.eraseIdx i, Nat.gcd n m = 1 := fun n hn => by
  have h1 := ((perm_erase hi).pairwise_iff (fun {a b} (e : Cop a b) => show Cop b a from (Nat.gcd_comm b a).trans e)).mp h
  have h2 := (List.pairwise_cons.mp h1).1 n hn
  rw [Nat.gcd_comm]; exact h2
theorem ones_get {ms : List Nat} {i m : Nat} (h : ms[i]? = some m) : (ones ms)[i]? = some 1 := by
  have := (List.getElem?_eq_some_iff.mp h).1
  unfold ones
  rw [List.getElem?_replicate, if_pos this]
theorem crt_inv {ms : List Nat} (hap : ms.Pairwise Cop) (hb : ∀ m ∈ ms, m ∈ bas) {i m : Nat} (h : ms[i]? = some m) : ∃ f, f < m ∧ cs (ones ms) ms % m * f % m = 1 % m := by
  obtain ⟨c, d, e1, e2, e3⟩ := cs_mod (ones ms) ms i 1 m List.length_replicate (ones_get h) h
  refine inv_ex (hb m (List.mem_of_getElem? h)) ?_
  rw [e1, Nat.one_mul, Nat.gcd_comm, Nat.gcd_add_mul_left_right, Nat.gcd_comm, e3]
  exact cop_prod (apart_erase hap h)
theorem crt_res {ms ss : List Nat} (hl : ss.length = ms.length) {i m s r f : Nat} (h : ms[i]? = some m) (hs : ss[i]? = some s) (hf : cs (ones ms) ms % m * f % m = 1 % m) (he : s = r % m * f % m) : cs ss ms % prod ms % m = r % m := by
  obtain ⟨c, d, e1, e2, e3⟩ := cs_mod ss ms i s m hl hs h
  obtain ⟨c', d', e1', e2', e3'⟩ := cs_mod (ones ms) ms i 1 m List.length_replicate (ones_get h) h
  have hc : c' = c := e3'.trans e3.symm
  subst hc
  rw [Nat.mod_mod_of_dvd _ ⟨c', by rw [← e2, Nat.mul_comm]⟩, e1, Nat.add_mul_mod_self_left, he]
  rw [e1', Nat.one_mul, Nat.add_mul_mod_self_left] at hf
  -- (r % m * f % m * c) % m = r % m
  rw [Nat.mod_mul_mod, Nat.mul_assoc, Nat.mod_mul_mod]
  have h1 : f * c' % m = 1 % m := by rw [← hf, Nat.mod_mul_mod, Nat.mul_comm]
  rw [Nat.mul_mod, h1, ← Nat.mul_mod, Nat.mul_one]
theorem sp_zip_sum : ∀ (rs ms : List Nat), ((List.zipWith (fun r m => r * m) rs ms).map fun n : Nat => (n : Int)).sum = ((sp (rs.zip ms) : Nat) : Int)
  | [], _ => by simp [sp]
  | _ :: _, [] => by simp [sp]
  | r :: rs, m :: ms => by
    rw [List.zipWith_cons_cons, List.zip_cons_cons, sp, List.map_cons, List.sum_cons, sp_zip_sum rs ms]
    push_cast
    rfl

open PySem PySem.W PyProof.Rows in
theorem f_sum_n {C : Cx} {σ : St} {xs : List Nat} {Q : Loc → St → Prop} (hb : xs.sum < 2 ^ 60) (q : Q (pn xs.sum) σ) : WCall C (.builtin "sum") [.pv (.list (xs.map pnat))] σ Q := by
  have hs : ∀ l : List Nat, (l.map fun n : Nat => (n : Int)).sum = ((l.sum : Nat) : Int) := fun l => by
    induction l with
    | nil => rfl
    | cons a l ih => rw [List.map_cons, List.sum_cons, List.sum_cons, ih]; push_cast; rfl
  have ht : ∀ (l : List Nat) (j : Nat), (l.take j).sum ≤ l.sum := fun l => by
    induction l with
    | nil => intro j; simp
    | cons a l ih =>
      intro j
      cases j with
      | zero => simp
      | succ j => rw [List.take_succ_cons, List.sum_cons, List.sum_cons]; exact Nat.add_le_add_left (ih j) _
  have hm : ∀ (l : List Nat), ∀ x ∈ l, x ≤ l.sum := fun l => by
    induction l with
    | nil => intro x h; cases h
    | cons a l ih =>
      intro x h
      rw [List.sum_cons]
      rcases List.mem_cons.mp h with rfl | h
      · lia
      · have := ih x h; lia
  have e : xs.map pnat = (xs.map fun n : Nat => (n : Int)).map PV.int := by rw [List.map_map]; rfl
  refine f_sum (ns := xs.map fun n : Nat => (n : Int)) (by rw [e]; rfl) (fun j hj => ?_) (by rw [hs]; exact q)
  rw [List.length_map] at hj
  have h1 : (xs.map fun n : Nat => (n : Int)).getD j 0 = ((xs[j] : Nat) : Int) := by
    rw [List.getD_eq_getElem?_getD, List.getElem?_map, List.getElem?_eq_getElem hj]; rfl
  rw [h1, ← List.map_take, hs]
  have h2 := hm xs xs[j] (List.getElem_mem hj)
  have h3 := ht xs (j + 1)
  unfold InLong
  constructor <;> constructor <;> lia
end CR
namespace CR
open PySem PySem.W PyProof.Rows
theorem map_erase : ∀ (l : List Nat) (i : Nat), (l.map pnat).eraseIdx i = (l.eraseIdx i).map pnat
  | [], i => by simp
  | x :: l, 0 => rfl
  | x :: l, i + 1 => by rw [List.map_cons, List.eraseIdx_cons_succ, List.eraseIdx_cons_succ, List.map_cons, map_erase l i]
abbrev LEn (L a : Addr) (q : Str) (cd : Value) : Env := envF (scopeOf 38) q L a cd
abbrev LC (prog : Program) (w : World) (K : Frag) (bs : Base) (L a : Addr) (q : Str) (cd : Value) : Cx := ⟨prog, w, K, bs, LEn L a q cd, 12, fun A => A.frames = some [LEn L a q cd]⟩
def lawHead : List Stmt := (bodyOf 38).take 20
def DealOk (nums : List Nat) (i s : Nat) : Prop := i ≤ nums.length ∧ nums.length ≤ 100 ∧ s < 2147483647
section
variable {prog : Program} {w : World} {K : Frag} {ad : Nat → Addr} {bs : Base} {L : Addr} {q : Str} {cd : Value} {LQ : RF → St → Prop}
/-- what the law has at hand, once its parts are dealt -/
structure Dealt (k many : Nat) (ms rs : List Nat) : Prop where
  k : 1 ≤ k ∧ k ≤ 20
  apart : ms.Pairwise Cop
  mem : ∀ m ∈ ms, m ∈ bas
  len : ms.length = many ∧ many ≤ 5
  rlen : rs.length = many
  rs : ∀ r ∈ rs, r < 200
theorem law_s1 (P : Prg K ad) (hc : bs.cellsOwn = true) (hl : bs.lent.length = 0) {zs : List Int} (hz : zs.length ≤ 1000000)
    (h : ∀ k many ms rs nums i s, Dealt k many ms rs → DealOk nums i s → WB (LC prog w K bs L (ad 38) q cd) (lawHead.drop 4) ⟨[(Nm "deal", .own 0), (Nm "w", pn k), (Nm "many", pn many), (Nm "moduli", .pv (row ms)), (Nm "rests", .pv (row rs))], [some (dl nums i s), none]⟩ LQ) :
    WB (LC prog w K bs L (ad 38) q cd) lawHead ⟨[(Nm "script", .pv (.list (zs.map .int)))], []⟩ LQ := by
  refine b_next ?_
  repeat (with_reducible first | (refine x_name ?_; refine ⟨_, by with_unfolding_all rfl, ?_⟩) | refine l_cons ?_ | refine l_nil ?_ | refine e_call ?_ | refine x_assign ?_ | refine k_ref (Prg.keep (by assumption) (by decide)) ?_ | refine sto_c (by assumption) ?_ | (refine e_glob (g_law_deal (by assumption)) ?_))
  refine call_f (ps := [.list (zs.map .int)]) rfl (law_deal_ok P hz) (Nat.le_of_ble_eq_true rfl) ?_
  rintro _ ⟨nums, s, rfl, hn, hs⟩
  refine .inr ?_
  repeat (with_reducible first | (refine x_name ?_; refine ⟨_, by with_unfolding_all rfl, ?_⟩) | refine e_nat ?_ | refine l_cons ?_ | refine l_nil ?_ | refine e_bin ?_ | refine ⟨rfl, ?_⟩ | refine e_call ?_ | refine s_assign_tup ?_ | refine k_ref (Prg.keep (by assumption) (by decide)) ?_ | (refine e_glob (g_law_take (by assumption)) ?_) | (with_unfolding_all refine b_next ?_))
  refine call_lent (ps := [.int (8 : Nat)]) rfl rfl (law_take_ok P (Nat.zero_le _) hn hs (by decide)) (Nat.le_of_ble_eq_true rfl) ?_
  rintro _ _ ⟨v, nums1, i1, s1, rfl, hv, ho, a1, a2, a3⟩
  cases ho
  refine lift_v ?_
  repeat (with_reducible first | (refine x_name ?_; refine ⟨_, by with_unfolding_all rfl, ?_⟩) | refine e_nat ?_ | refine l_cons ?_ | refine l_nil ?_ | refine e_call ?_ | refine add_nn ?_ | refine k_ref (Prg.keep (by assumption) (by decide)) ?_ | (refine e_glob (g_law_take (by assumption)) ?_))
  refine call_lent (ps := [.int (6 : Nat)]) rfl rfl (law_take_ok P a1 a2 a3 (by decide)) (Nat.le_of_ble_eq_true rfl) ?_
  rintro _ _ ⟨many, nums2, i2, s2, rfl, hmany, ho, b1, b2, b3⟩
  cases ho
  refine lift_v ?_
  repeat (with_reducible first | refine e_nat ?_ | refine l_cons ?_ | refine l_nil ?_ | refine e_list ?_)
  refine ⟨bas.map pnat, rfl, by decide, .inr ?_⟩
  refine l_nil ⟨⟨rfl, by decide⟩, ?_⟩
  refine as_cons ?_
  repeat (with_reducible first | refine ⟨rfl, ?_⟩ | refine sto_l ?_ | refine sto_c (by assumption) ?_ | refine xa_name ?_ | refine as_cons ?_ | refine as_nil ?_ | (with_unfolding_all refine b_next ?_))
  refine W.state [(Nm "deal", .own 0), (Nm "w", pn (2 + v)), (Nm "many", pn many), (Nm "left", .own 1)] [some (dl nums2 i2 s2), some (bas.map pnat)] ?_
  refine s_assign_comp ⟨rfl, .inl rfl⟩ ?_
  repeat (with_reducible first | (refine x_name ?_; refine ⟨_, by with_unfolding_all rfl, ?_⟩) | refine l_cons ?_ | refine l_nil ?_ | refine ⟨rfl, ?_⟩ | refine ⟨_, rfl, ?_⟩ | refine x_range1 ?_ | refine b_range (by assumption) ?_ | refine ⟨by (first | assumption | (with_unfolding_all exact Nat.le_of_ble_eq_true rfl) | (apply Nat.le_trans; assumption; with_unfolding_all exact Nat.le_of_ble_eq_true rfl) | (apply Nat.lt_of_le_of_lt; assumption; with_unfolding_all exact Nat.le_of_ble_eq_true rfl) | ((try simp only [List.length_map, List.length_append, List.length_cons, List.length_nil, List.length_set, List.length_replicate, List.length_take, List.length_drop, List.length_reverse]); first | assumption | lia) | decide), ?_⟩)
  refine ⟨by simp [upto]; lia, [(Nm "deal", .own 0), (Nm "left", .own 1)], rd_lookup (by repeat (first | exact Rd.nil | refine Rd.cons (by with_unfolding_all rfl) (by with_unfolding_all rfl) ?_)),
    fun i zs σ₁ => ∃ ms left nums j s, zs = ms.map pnat ∧ σ₁ = ⟨[(Nm "deal", .own 0), (Nm "left", .own 1)], [some (dl nums j s), some (left.map pnat)]⟩ ∧ Picked ms left ∧ ms.length = i ∧ left.length = 9 - i ∧ DealOk nums j s, ⟨[], bas, nums2, i2, s2, rfl, rfl, ⟨List.Perm.refl _⟩, rfl, rfl, b1, b2, b3⟩, ?_, ?_⟩
  · rintro C0 bs' h1 h2 i x zs _ hx ⟨ms, left, nums, j, s, rfl, rfl, hpk, hml, hll, d1, d2, d3⟩
    obtain ⟨hi, rfl⟩ := upto_get hx
    show WAsg _ _ _ _ _
    repeat (with_reducible first | refine sto_l ?_ | refine xa_name ?_)
    refine tests_nil ?_
    rw [if_pos rfl]
    refine e_pop (x_name ⟨.own 1, by with_unfolding_all rfl, 1, left.map pnat, rfl, rfl, ?_⟩)
    repeat (with_reducible first | (refine x_name ?_; refine ⟨_, by with_unfolding_all rfl, ?_⟩) | refine l_cons ?_ | refine l_nil ?_ | refine e_call ?_ | refine ⟨_, _, _, by with_unfolding_all rfl, by (first | assumption | (with_unfolding_all exact Nat.le_of_ble_eq_true rfl) | (apply Nat.le_trans; assumption; with_unfolding_all exact Nat.le_of_ble_eq_true rfl) | (apply Nat.lt_of_le_of_lt; assumption; with_unfolding_all exact Nat.le_of_ble_eq_true rfl) | ((try simp only [List.length_map, List.length_append, List.length_cons, List.length_nil, List.length_set, List.length_replicate, List.length_take, List.length_drop, List.length_reverse]); first | assumption | lia) | decide), ?_⟩ | refine k_ref (Prg.keep (by assumption) (by decide)) ?_ | refine k_bi ?_ | refine x_len ?_ | refine b_len (by assumption) ?_ | (refine e_glob (g_law_take (by assumption)) ?_))
    refine call_lent (ps := [.int (left.length : Nat)]) rfl rfl (law_take_ok P d1 d2 d3 (by lia)) (Nat.le_of_ble_eq_true rfl) ?_
    rintro _ _ ⟨u, nums', j', s', rfl, hu, ho, e1, e2, e3⟩
    cases ho
    refine lift_v ?_
    obtain ⟨y, hy⟩ : ∃ y, left[u]? = some y := ⟨_, List.getElem?_eq_getElem hu⟩
    refine ⟨u, left.map pnat, pnat y, rfl, rfl, by rw [List.length_map]; lia, by rw [List.getElem?_map, hy]; rfl, ?_⟩
    refine ⟨pnat y, ⟨[(Nm "deal", .own 0), (Nm "left", .own 1)], [some (dl nums' j' s'), some ((left.eraseIdx u).map pnat)]⟩, rfl, less_of (hO := ?_), ms ++ [y], left.eraseIdx u, nums', j', s', by rw [List.map_append]; rfl, rfl, hpk.pick hy, by simp; lia, by rw [List.length_eraseIdx, if_pos hu]; lia, e1, e2, e3⟩
    exact congrArg (fun z => [some (dl nums' j' s'), some z]) (map_erase left u).symm
  · rintro zs _ ⟨ms, left, nums, j, s, rfl, rfl, hpk, hml, hll, d1, d2, d3⟩
    rw [show (upto 0 many).length = many by simp [upto]] at hml
    refine .inl ⟨rfl, ?_⟩
    refine W.state [(Nm "deal", .own 0), (Nm "w", pn (2 + v)), (Nm "many", pn many), (Nm "moduli", .pv (row ms)), (Nm "left", .own 1)] [some (dl nums j s), some (left.map pnat)] ?_
    refine b_next (s_assign_comp ⟨rfl, .inl rfl⟩ ?_)
    repeat (with_reducible first | (refine x_name ?_; refine ⟨_, by with_unfolding_all rfl, ?_⟩) | refine ⟨_, rfl, ?_⟩ | refine it_list ?_)
    refine ⟨by simp; lia, [(Nm "deal", .own 0)], rd_lookup (by repeat (first | exact Rd.nil | refine Rd.cons (by with_unfolding_all rfl) (by with_unfolding_all rfl) ?_)),
      fun i zs σ₁ => ∃ (rs nums : List Nat) (j s : Nat), zs = rs.map pnat ∧ σ₁ = ⟨[(Nm "deal", .own 0)], [some (dl nums j s), some (left.map pnat)]⟩ ∧ rs.length = i ∧ (∀ r ∈ rs, r < 200) ∧ DealOk nums j s, ⟨[], nums, j, s, rfl, rfl, rfl, (fun r h => by cases h), d1, d2, d3⟩, ?_, ?_⟩
    · rintro C0 bs' h1 h2 i x zs _ hx ⟨rs, nums, j, s, rfl, rfl, hrl, hrs, d1, d2, d3⟩
      rw [List.getElem?_map, List.getElem?_map] at hx
      cases e : ms[i]? with
      | none => rw [e] at hx; cases hx
      | some y =>
        rw [e] at hx; cases hx
        show WAsg _ _ _ _ _
        repeat (with_reducible first | refine sto_l ?_ | refine xa_name ?_)
        refine tests_nil ?_
        rw [if_pos rfl]
        repeat (with_reducible first | (refine x_name ?_; refine ⟨_, by with_unfolding_all rfl, ?_⟩) | refine e_nat ?_ | refine l_cons ?_ | refine l_nil ?_ | refine e_call ?_ | refine k_ref (Prg.keep (by assumption) (by decide)) ?_ | (refine e_glob (g_law_take (by assumption)) ?_))
        refine call_lent (ps := [.int (200 : Nat)]) rfl rfl (law_take_ok P d1 d2 d3 (by decide)) (Nat.le_of_ble_eq_true rfl) ?_
        rintro _ _ ⟨u, nums', j', s', rfl, hu, ho, e1, e2, e3⟩
        cases ho
        refine lift_v ?_
        refine ⟨_, ⟨[(Nm "deal", .own 0)], [some (dl nums' j' s'), some (left.map pnat)]⟩, rfl, less_of, rs ++ [u], nums', j', s', by rw [List.map_append]; rfl, rfl, by simp [hrl], fun r hr => ?_, e1, e2, e3⟩
        rcases List.mem_append.mp hr with h | h
        · exact hrs r h
        · rw [List.mem_singleton] at h; subst h; exact hu
    · rintro zs _ ⟨rs, nums, j, s, rfl, rfl, hrl, hrs, dd⟩
      rw [List.length_map, List.length_map, hml] at hrl
      refine .inl ⟨rfl, ?_⟩
      refine W.freeze (k := 1) (xs := left.map pnat) rfl (by rw [hl]; exact Nat.zero_le _) ?_
      refine W.state [(Nm "deal", .own 0), (Nm "w", pn (2 + v)), (Nm "many", pn many), (Nm "moduli", .pv (row ms)), (Nm "rests", .pv (row rs))] [some (dl nums j s), none] ?_
      exact h (2 + v) many ms rs nums j s ⟨by lia, hpk.apart, hpk.mem, ⟨hml, by lia⟩, hrl, hrs⟩ dd
end
end CR
namespace CR
open PySem PySem.W PyProof.Rows
theorem prod_take {ms : List Nat} {j m : Nat} (h : ms[j]? = some m) : prod (ms.take (j + 1)) = prod (ms.take j) * m := by
  rw [List.take_add_one, h, Option.toList_some, prod_append, prod, prod, Nat.mul_one]
section
variable {prog : Program} {w : World} {K : Frag} {ad : Nat → Addr} {bs : Base} {L : Addr} {q : Str} {cd : Value} {LQ : RF → St → Prop}
theorem remainder_tree_nil (P : Prg K ad) {k a : Nat} : FCall prog w K 5 (ad 15) [] [num k a, .list ((tree []).map (lev k)), .int k, .ref (ad 28)] (fun r _ => r = .val (lev k (([] : List Nat).map (a % ·)))) := by
  rw [tree_small (ns := []) (by simp)]
  refine enter (P.fn 15 (by decide)) [Nm "a", Nm "levels", Nm "w", Nm "divrem"] (by (intro nm q doc pm an cdv ct vals h; obtain ⟨a, b, c, d, e⟩ := len4 h; subst e; with_unfolding_all rfl)) (fun _ => rfl) (by decide) rfl [(Nm "a", .pv (num k a)), (Nm "levels", .pv (.list ([[]].map (lev k)))), (Nm "w", pn k), (Nm "divrem", .pv (.ref (ad 28)))] [] rfl rfl ?_
  intro bs L q cd _ hc
  refine let C : Cx := _; let Z : RF → St → Prop := _; (show WB C _ _ Z from ?_)
  have h0 : ([[]] : List (List Nat))[0]? = some [] := rfl
  refine b_then ?_
  repeat (with_reducible first | (refine x_name ?_; refine ⟨_, by with_unfolding_all rfl, ?_⟩) | refine e_nat ?_ | refine l_cons ?_ | refine l_nil ?_ | refine ⟨_, rfl, ?_⟩ | refine t_cmp ?_ | refine e_sub ?_ | refine e_call ?_ | (refine x_ixp ?_; refine ⟨_, _, by with_unfolding_all rfl, by with_unfolding_all rfl, by (first | assumption | (with_unfolding_all exact Nat.le_of_ble_eq_true rfl) | (apply Nat.le_trans; assumption; with_unfolding_all exact Nat.le_of_ble_eq_true rfl) | (apply Nat.lt_of_le_of_lt; assumption; with_unfolding_all exact Nat.le_of_ble_eq_true rfl) | ((try simp only [List.length_map, List.length_append, List.length_cons, List.length_nil, List.length_set, List.length_replicate, List.length_take, List.length_drop, List.length_reverse]); first | assumption | lia) | decide), ?_⟩) | refine ⟨_, _, _, by with_unfolding_all rfl, by (first | assumption | (with_unfolding_all exact Nat.le_of_ble_eq_true rfl) | (apply Nat.le_trans; assumption; with_unfolding_all exact Nat.le_of_ble_eq_true rfl) | (apply Nat.lt_of_le_of_lt; assumption; with_unfolding_all exact Nat.le_of_ble_eq_true rfl) | ((try simp only [List.length_map, List.length_append, List.length_cons, List.length_nil, List.length_set, List.length_replicate, List.length_take, List.length_drop, List.length_reverse]); first | assumption | lia) | decide), ?_⟩ | refine s_return ?_ | refine s_if ?_ | refine b_ret ?_ | (refine ite_t ?_ ?_; (first | assumption | (with_unfolding_all exact Nat.le_of_ble_eq_true rfl) | (apply Nat.le_trans; assumption; with_unfolding_all exact Nat.le_of_ble_eq_true rfl) | (apply Nat.lt_of_le_of_lt; assumption; with_unfolding_all exact Nat.le_of_ble_eq_true rfl) | ((try simp only [List.length_map, List.length_append, List.length_cons, List.length_nil, List.length_set, List.length_replicate, List.length_take, List.length_drop, List.length_reverse]); first | assumption | lia) | decide)) | refine k_bi ?_ | refine x_len ?_ | refine eq_nn ?_ | refine e_list ?_ | refine ⟨[], rfl, by decide, ?_⟩ | refine b_len (by assumption) ?_)
  refine .inl ?_
  repeat (with_reducible first | refine then_ret ?_)
  exact fin_val rfl
theorem Dealt.small {k many : Nat} {ms rs : List Nat} (D : Dealt k many ms rs) : (∀ m ∈ ms, 0 < m) ∧ (∀ m ∈ ms, m < 1000) ∧ prod ms < 2 ^ 30 ∧ ms.length ≤ 5 ∧ rs.length ≤ 5 ∧ rs.length = ms.length := by
  have h1 := prod_le (b := 49) (ns := ms) fun n hn => (bas_small n (D.mem n hn)).2
  have h2 : 49 ^ ms.length ≤ 49 ^ 5 := Nat.pow_le_pow_right (by decide) (by have := D.len; lia)
  have h3 := D.len
  have h4 := D.rlen
  exact ⟨fun m hm => (bas_small m (D.mem m hm)).1, fun m hm => by have := (bas_small m (D.mem m hm)).2; lia, by lia, by lia, by lia, by lia⟩
theorem law_s2 (P : Prg K ad) (hc : bs.cellsOwn = true) (hl : bs.lent.length = 0) {k many : Nat} {ms rs nums : List Nat} {i s : Nat} (D : Dealt k many ms rs) (dd : DealOk nums i s)
    (h : WB (LC prog w K bs L (ad 38) q cd) (lawHead.drop 7) ⟨[(Nm "deal", .own 0), (Nm "w", pn k), (Nm "many", pn many), (Nm "moduli", .pv (row ms)), (Nm "rests", .pv (row rs)), (Nm "rows", .pv (lev k ms)), (Nm "whole", pn (prod ms))], [some (dl nums i s), none]⟩ LQ) :
    WB (LC prog w K bs L (ad 38) q cd) (lawHead.drop 4) ⟨[(Nm "deal", .own 0), (Nm "w", pn k), (Nm "many", pn many), (Nm "moduli", .pv (row ms)), (Nm "rests", .pv (row rs))], [some (dl nums i s), none]⟩ LQ := by
  have hk := D.k
  obtain ⟨hp, hs, hP, hml, hrl, hrm⟩ := D.small
  refine b_next ?_
  repeat (with_reducible first | refine l_cons ?_ | refine s_assign_tup ?_)
  refine e_comp ?_
  repeat (with_reducible first | (refine x_name ?_; refine ⟨_, by with_unfolding_all rfl, ?_⟩) | refine ⟨_, rfl, ?_⟩ | refine it_list ?_)
  refine comp_inv (g := num k) [(Nm "w", pn k)] (by lia) ?_ ?_
  · intro C0 bs' h1 h2 j m hm
    have l1 := limbs_len2 (k := 10) hk.1 (show m < 2 ^ 10 by have := hs m (List.mem_of_getElem? hm); lia)
    repeat (with_reducible first | (refine x_name ?_; refine ⟨_, by with_unfolding_all rfl, ?_⟩) | refine l_cons ?_ | refine l_nil ?_ | refine sto_l ?_ | refine e_call ?_ | refine k_ref (Prg.keep (by assumption) (by decide)) ?_ | refine xa_name ?_ | (refine e_glob (g_law_row (by assumption)) ?_))
    refine call_n (law_row_ok P (n := m) hk (by lia)) (.inl ?_)
    repeat (with_reducible first | refine ⟨rfl, ?_⟩)
    exact less_of
  · refine .inl ?_
    repeat (with_reducible first | (refine x_name ?_; refine ⟨_, by with_unfolding_all rfl, ?_⟩) | refine e_nat ?_ | refine l_cons ?_ | refine l_nil ?_ | refine ⟨rfl, ?_⟩ | refine sto_l ?_ | refine ⟨_, rfl, ?_⟩ | refine s_for ?_ | refine it_list ?_ | refine sto_c (by assumption) ?_ | refine xa_name ?_ | refine as_cons ?_ | refine as_nil ?_ | refine ⟨⟨rfl, by decide⟩, ?_⟩ | (with_unfolding_all refine b_for ?_))
    let I1 : Nat → St → Prop := fun j σ => σ = ⟨[(Nm "deal", .own 0), (Nm "w", pn k), (Nm "many", pn many), (Nm "moduli", .pv (row ms)), (Nm "rests", .pv (row rs)), (Nm "rows", .pv (lev k ms)), (Nm "whole", pn (prod (ms.take j)))], [some (dl nums i s), none]⟩
    refine for_list I1 rfl ?_ ?_
    · rintro j m hm _ rfl bs' _ hc'
      have hcc : bs'.cellsOwn = true := hc'.trans hc
      have hb : prod (ms.take j) < 2 ^ 60 ∨ m < 2 ^ 60 := .inr (by have := hs m (List.mem_of_getElem? hm); lia)
      have e := prod_take hm
      repeat (with_reducible first | (refine x_name ?_; refine ⟨_, by with_unfolding_all rfl, ?_⟩) | refine e_bin ?_ | refine ⟨rfl, ?_⟩ | refine sto_l ?_ | refine x_assign ?_ | refine b_nil ?_ | refine b_next ?_ | (refine mul_nn ?_ ?_; (first | assumption | (with_unfolding_all exact Nat.le_of_ble_eq_true rfl) | (apply Nat.le_trans; assumption; with_unfolding_all exact Nat.le_of_ble_eq_true rfl) | (apply Nat.lt_of_le_of_lt; assumption; with_unfolding_all exact Nat.le_of_ble_eq_true rfl) | ((try simp only [List.length_map, List.length_append, List.length_cons, List.length_nil, List.length_set, List.length_replicate, List.length_take, List.length_drop, List.length_reverse]); first | assumption | lia) | decide)) | refine sto_c (by assumption) ?_ | refine xa_name ?_)
      rw [← e]
      exact loop_next (next_of (N := fun σ => σ = _) rfl)
    · rintro _ rfl
      rw [List.take_length]
      have l1 := limbs_len2 hk.1 hP
      refine then_next (b_mid (fun σ => Less σ ⟨[(Nm "deal", .own 0), (Nm "w", pn k), (Nm "many", pn many), (Nm "moduli", .pv (row ms)), (Nm "rests", .pv (row rs)), (Nm "rows", .pv (lev k ms)), (Nm "whole", pn (prod ms))], [some (dl nums i s), none]⟩) ?_ (fun σ hh => W.less hh h))
      repeat (with_reducible first | (refine x_name ?_; refine ⟨_, by with_unfolding_all rfl, ?_⟩) | refine l_cons ?_ | refine l_nil ?_ | refine t_cmp ?_ | refine e_call ?_ | refine s_if ?_ | refine k_ref (Prg.keep (by assumption) (by decide)) ?_ | (refine e_glob (g_law_value (by assumption)) ?_) | (refine e_glob (g_product (by assumption)) ?_) | (refine e_glob (g_mul_school (by assumption)) ?_))
      refine call_f (ps := [lev k ms, .int k, .ref (ad 22)]) rfl (product_ok P hk 5 ms hml (by decide) hp (by lia)) (Nat.le_of_ble_eq_true rfl) ?_
      rintro _ rfl
      refine lift_v ?_
      repeat (with_reducible first | (refine x_name ?_; refine ⟨_, by with_unfolding_all rfl, ?_⟩) | refine l_cons ?_ | refine l_nil ?_)
      refine call_v (law_value_ok P (n := prod ms) hk (by lia)) ?_
      repeat (with_reducible first | (refine x_name ?_; refine ⟨_, by with_unfolding_all rfl, ?_⟩) | refine ⟨rfl, ?_⟩ | refine ⟨_, rfl, ?_⟩ | refine b_nil ?_ | (refine ite_f ?_ ?_; (first | assumption | (with_unfolding_all exact Nat.le_of_ble_eq_true rfl) | (apply Nat.le_trans; assumption; with_unfolding_all exact Nat.le_of_ble_eq_true rfl) | (apply Nat.lt_of_le_of_lt; assumption; with_unfolding_all exact Nat.le_of_ble_eq_true rfl) | ((try simp only [List.length_map, List.length_append, List.length_cons, List.length_nil, List.length_set, List.length_replicate, List.length_take, List.length_drop, List.length_reverse]); first | assumption | lia) | decide)) | refine ne_nn ?_)
      exact less_of
theorem law_s3 (P : Prg K ad) (hc : bs.cellsOwn = true) (hl : bs.lent.length = 0) {k many : Nat} {ms rs nums : List Nat} {i s : Nat} (D : Dealt k many ms rs) (dd : DealOk nums i s)
    (h : ∀ O, WB (LC prog w K bs L (ad 38) q cd) (lawHead.drop 10) ⟨[(Nm "w", pn k), (Nm "many", pn many), (Nm "moduli", .pv (row ms)), (Nm "rests", .pv (row rs)), (Nm "rows", .pv (lev k ms)), (Nm "whole", pn (prod ms)), (Nm "levels", .pv (.list ((tree ms).map (lev k))))], [O, none]⟩ LQ) :
    WB (LC prog w K bs L (ad 38) q cd) (lawHead.drop 7) ⟨[(Nm "deal", .own 0), (Nm "w", pn k), (Nm "many", pn many), (Nm "moduli", .pv (row ms)), (Nm "rests", .pv (row rs)), (Nm "rows", .pv (lev k ms)), (Nm "whole", pn (prod ms))], [some (dl nums i s), none]⟩ LQ := by
  have hk := D.k
  obtain ⟨hp, hs, hP, hml, hrl, hrm⟩ := D.small
  obtain ⟨d1, d2, d3⟩ := dd
  refine b_next ?_
  repeat (with_reducible first | (refine x_name ?_; refine ⟨_, by with_unfolding_all rfl, ?_⟩) | refine e_nat ?_ | refine l_cons ?_ | refine l_nil ?_ | refine e_call ?_ | refine s_assign_tup ?_ | refine k_ref (Prg.keep (by assumption) (by decide)) ?_ | (refine e_glob (g_law_great (by assumption)) ?_))
  refine call_lent (ps := [.int (40 : Nat)]) rfl rfl (law_great_ok P d1 d2 d3) (Nat.le_of_ble_eq_true rfl) ?_
  rintro _ _ ⟨g, nums', i', s', rfl, hg, ho, e1, e2, e3⟩
  cases ho
  refine lift_v ?_
  repeat (with_reducible first | (refine x_name ?_; refine ⟨_, by with_unfolding_all rfl, ?_⟩) | refine l_cons ?_ | refine l_nil ?_ | refine e_call ?_ | refine k_ref (Prg.keep (by assumption) (by decide)) ?_ | (refine e_glob (g_mul_school (by assumption)) ?_) | (refine e_glob (g_product_tree (by assumption)) ?_))
  refine call_n (product_tree_ok P hk ms (by lia) hp (by lia)) (.inl ?_)
  refine l_nil ⟨⟨rfl, by decide⟩, ?_⟩
  refine as_cons ?_
  have l1 := limbs_len2 hk.1 hg
  repeat (with_reducible first | refine ⟨rfl, ?_⟩ | refine sto_l ?_ | refine sto_c (by assumption) ?_ | refine xa_name ?_ | refine as_cons ?_ | refine as_nil ?_ | (with_unfolding_all refine b_next ?_))
  refine s_assign_comp ⟨rfl, .inl rfl⟩ ?_
  repeat (with_reducible first | (refine x_name ?_; refine ⟨_, by with_unfolding_all rfl, ?_⟩) | refine l_cons ?_ | refine l_nil ?_ | refine e_call ?_ | refine it_list ?_ | refine k_ref (Prg.keep (by assumption) (by decide)) ?_ | (refine e_glob (g_law_row (by assumption)) ?_) | (refine e_glob (g_remainder_tree (by assumption)) ?_))
  refine call_n (law_row_ok P (n := g) hk (by lia)) (.inl ?_)
  repeat (with_reducible first | (refine x_name ?_; refine ⟨_, by with_unfolding_all rfl, ?_⟩) | refine l_cons ?_ | refine l_nil ?_ | (refine e_glob (g_divrem_school (by assumption)) ?_))
  have rt : FCall prog w K 5 (ad 15) [] [num k g, .list ((tree ms).map (lev k)), .int k, .ref (ad 28)] (fun r _ => r = .val (lev k (ms.map (g % ·)))) := by
    by_cases h0 : ms = []
    · subst h0; exact remainder_tree_nil P
    · have := List.length_pos_iff.mpr h0
      exact remainder_tree_ok P hk ms (by lia) (by lia) hp (by lia)
  refine call_v rt ?_
  repeat (with_reducible first | refine ⟨_, rfl, ?_⟩)
  refine comp_inv (g := pnat) [(Nm "w", pn k)] (by rw [List.length_map]; lia) ?_ ?_
  · intro C0 bs' h1 h2 j m hm
    have hmb : m < 2 ^ 10 := by
      obtain ⟨x, hx, rfl⟩ := List.mem_map.mp (List.mem_of_getElem? hm)
      have := Nat.mod_lt g (hp x hx)
      have := hs x hx
      lia
    have l1 := limbs_len2 hk.1 hmb
    repeat (with_reducible first | (refine x_name ?_; refine ⟨_, by with_unfolding_all rfl, ?_⟩) | refine l_cons ?_ | refine l_nil ?_ | refine sto_l ?_ | refine e_call ?_ | refine k_ref (Prg.keep (by assumption) (by decide)) ?_ | refine xa_name ?_ | (refine e_glob (g_law_value (by assumption)) ?_))
    refine call_v (law_value_ok P (n := m) hk (by lia)) ?_
    repeat (with_reducible first | refine ⟨rfl, ?_⟩)
    exact less_of
  · refine .inl ⟨rfl, ?_⟩
    refine b_mid (fun σ => ∃ O, Less σ ⟨[(Nm "w", pn k), (Nm "many", pn many), (Nm "moduli", .pv (row ms)), (Nm "rests", .pv (row rs)), (Nm "rows", .pv (lev k ms)), (Nm "whole", pn (prod ms)), (Nm "levels", .pv (.list ((tree ms).map (lev k))))], [O, none]⟩) ?_ (fun σ ⟨O, hh⟩ => W.less hh (h O))
    repeat (with_reducible first | (refine x_name ?_; refine ⟨_, by with_unfolding_all rfl, ?_⟩) | refine t_cmp ?_ | refine s_if ?_)
    refine e_comp ?_
    repeat (with_reducible first | (refine x_name ?_; refine ⟨_, by with_unfolding_all rfl, ?_⟩) | refine ⟨_, rfl, ?_⟩ | refine it_list ?_)
    refine comp_inv (g := fun m => pnat (g % m)) [(Nm "great", pn g)] (by lia) ?_ ?_
    · intro C0 bs' h1 h2 j m hm
      have hm0 := hp m (List.mem_of_getElem? hm)
      repeat (with_reducible first | (refine x_name ?_; refine ⟨_, by with_unfolding_all rfl, ?_⟩) | refine e_bin ?_ | refine ⟨rfl, ?_⟩ | refine sto_l ?_ | (refine mod_nn ?_ ?_; (first | assumption | (with_unfolding_all exact Nat.le_of_ble_eq_true rfl) | (apply Nat.le_trans; assumption; with_unfolding_all exact Nat.le_of_ble_eq_true rfl) | (apply Nat.lt_of_le_of_lt; assumption; with_unfolding_all exact Nat.le_of_ble_eq_true rfl) | ((try simp only [List.length_map, List.length_append, List.length_cons, List.length_nil, List.length_set, List.length_replicate, List.length_take, List.length_drop, List.length_reverse]); first | assumption | lia) | decide)) | refine xa_name ?_)
      exact less_of
    · have e : ms.map (fun m => pnat (g % m)) = (ms.map (g % ·)).map pnat := by rw [List.map_map]; rfl
      rw [e]
      refine .inl ?_
      refine ne_ll ?_
      rw [decide_eq_true rfl]
      repeat (with_reducible first | refine ⟨rfl, ?_⟩ | refine ⟨_, rfl, ?_⟩ | refine b_nil ?_ | refine ite_ntt ?_)
      exact ⟨_, less_of⟩
end
end CR
namespace CR
open PySem PySem.W PyProof.Rows
theorem zip_get {rs ms : List Nat} {i : Nat} {p : Nat × Nat} (h : (rs.zip ms)[i]? = some p) : rs[i]? = some p.1 ∧ ms[i]? = some p.2 := by
  rw [List.getElem?_zip_eq_some] at h; exact h
theorem zipw_map {γ : Type} (g : Nat → Nat → γ) (f : Nat × Nat → γ) (h : ∀ r m, g r m = f (r, m)) : ∀ rs ms : List Nat, List.zipWith g rs ms = (rs.zip ms).map f
  | [], _ => by simp
  | _ :: _, [] => by simp
  | r :: rs, m :: ms => by rw [List.zipWith_cons_cons, List.zip_cons_cons, List.map_cons, zipw_map g f h rs ms, h]
theorem zip_snd : ∀ {rs ms : List Nat}, rs.length = ms.length → (rs.zip ms).map (·.2) = ms
  | [], [], _ => rfl
  | r :: rs, m :: ms, h => by rw [List.zip_cons_cons, List.map_cons, zip_snd (by simpa using h)]
theorem sp_sum : ∀ l : List (Nat × Nat), (l.map fun p => p.1 * p.2).sum = sp l
  | [] => rfl
  | p :: l => by rw [List.map_cons, List.sum_cons, sp, sp_sum l]
theorem cs_sum : ∀ (rs ms : List Nat) (P : Nat), (∀ m ∈ ms, 0 < m) → (∃ c, P = c * prod ms) → ((rs.zip ms).map fun p => p.1 * (P / p.2)).sum * prod ms = P * cs rs ms
  | [], ms, P, _, _ => by simp [cs]
  | r :: rs, [], P, _, _ => by simp [cs]
  | r :: rs, m :: ms, P, hp, ⟨c, hc⟩ => by
    have hm : 0 < m := hp m (by simp)
    rw [List.zip_cons_cons, List.map_cons, List.sum_cons, cs, prod]
    have ih := cs_sum rs ms P (fun x hx => hp x (by simp [hx])) ⟨c * m, by rw [hc, prod, Nat.mul_assoc]⟩
    have hd : P / m = c * prod ms := by rw [hc, prod, Nat.mul_left_comm, Nat.mul_div_cancel_left _ hm]
    rw [Nat.add_mul, hd]
    have e1 : r * (c * prod ms) * (m * prod ms) = P * (r * prod ms) := by
      rw [hc, prod]
      ac_rfl
    have e2 : ((rs.zip ms).map fun p => p.1 * (P / p.2)).sum * (m * prod ms) = P * (m * cs rs ms) := by
      rw [Nat.mul_left_comm, ih, Nat.mul_left_comm]
    rw [e1, e2, Nat.mul_add]
theorem cs_eq {rs ms : List Nat} (hp : ∀ m ∈ ms, 0 < m) : ((rs.zip ms).map fun p => p.1 * (prod ms / p.2)).sum = cs rs ms := by
  have h := cs_sum rs ms (prod ms) hp ⟨1, by rw [Nat.one_mul]⟩
  rw [Nat.mul_comm (prod ms)] at h
  exact Nat.eq_of_mul_eq_mul_right (prod_pos hp) h
theorem cs_bound : ∀ (rs ms : List Nat), (∀ r ∈ rs, r < 200) → (∀ m ∈ ms, 0 < m) → cs rs ms ≤ 200 * ms.length * prod ms
  | [], ms, _, _ => by simp [cs]
  | r :: rs, [], _, _ => by simp [cs]
  | r :: rs, m :: ms, hr, hp => by
    have h1 := cs_bound rs ms (fun x hx => hr x (by simp [hx])) (fun x hx => hp x (by simp [hx]))
    have h2 := hr r (by simp)
    have hm := hp m (by simp)
    rw [cs, List.length_cons, prod]
    have e1 : r * prod ms ≤ 200 * (m * prod ms) := Nat.mul_le_mul (by lia) (Nat.le_mul_of_pos_left _ hm)
    have e2 : m * cs rs ms ≤ 200 * ms.length * (m * prod ms) := by rw [Nat.mul_left_comm]; exact Nat.mul_le_mul_left _ h1
    rw [Nat.mul_add, Nat.add_mul, Nat.mul_one]; lia
section
variable {prog : Program} {w : World} {K : Frag} {ad : Nat → Addr} {bs : Base} {L : Addr} {q : Str} {cd : Value} {LQ : RF → St → Prop}
theorem law_s4 (P : Prg K ad) (hc : bs.cellsOwn = true) {k many : Nat} {ms rs : List Nat} {O : Option (List PV)} (D : Dealt k many ms rs)
    (h : WB (LC prog w K bs L (ad 38) q cd) (lawHead.drop 15) ⟨[(Nm "w", pn k), (Nm "many", pn many), (Nm "moduli", .pv (row ms)), (Nm "rests", .pv (row rs)), (Nm "rows", .pv (lev k ms)), (Nm "whole", pn (prod ms)), (Nm "levels", .pv (.list ((tree ms).map (lev k)))), (Nm "pairs", .pv (.list ((rs.zip ms).map (pr k))))], [O, none]⟩ LQ) :
    WB (LC prog w K bs L (ad 38) q cd) (lawHead.drop 10) ⟨[(Nm "w", pn k), (Nm "many", pn many), (Nm "moduli", .pv (row ms)), (Nm "rests", .pv (row rs)), (Nm "rows", .pv (lev k ms)), (Nm "whole", pn (prod ms)), (Nm "levels", .pv (.list ((tree ms).map (lev k))))], [O, none]⟩ LQ := by
  have hk := D.k
  obtain ⟨hp, hs, hP, hml, hrl, hrm⟩ := D.small
  refine b_next (s_assign_comp ⟨rfl, .inl rfl⟩ ?_)
  repeat (with_reducible first | (refine x_name ?_; refine ⟨_, by with_unfolding_all rfl, ?_⟩) | refine ⟨rfl, ?_⟩ | refine ⟨_, rfl, ?_⟩ | refine it_zip ?_ | refine b_zip (by assumption) ?_)
  refine comp_zip (g := fun r m => pr k (r, m)) [(Nm "w", pn k)] (by lia) hrm ?_ ?_
  · intro C0 bs' h1 h2 j r m hr hm
    have l1 := limbs_len2 (k := 8) hk.1 (show r < 2 ^ 8 by have := D.rs r (List.mem_of_getElem? hr); lia)
    repeat (with_reducible first | (refine x_name ?_; refine ⟨_, by with_unfolding_all rfl, ?_⟩) | refine l_cons ?_ | refine l_nil ?_ | refine sto_l ?_ | refine e_call ?_ | refine k_ref (Prg.keep (by assumption) (by decide)) ?_ | refine e_tuple ?_ | refine xa_name ?_ | refine as_cons ?_ | refine as_nil ?_ | (refine e_glob (g_law_row (by assumption)) ?_))
    refine call_n (law_row_ok P (n := r) hk (by lia)) (.inl ?_)
    repeat (with_reducible first | (refine x_name ?_; refine ⟨_, by with_unfolding_all rfl, ?_⟩) | refine l_cons ?_ | refine l_nil ?_ | refine ⟨rfl, ?_⟩ | refine ⟨[_, _], by with_unfolding_all rfl, by (first | assumption | (with_unfolding_all exact Nat.le_of_ble_eq_true rfl) | (apply Nat.le_trans; assumption; with_unfolding_all exact Nat.le_of_ble_eq_true rfl) | (apply Nat.lt_of_le_of_lt; assumption; with_unfolding_all exact Nat.le_of_ble_eq_true rfl) | ((try simp only [List.length_map, List.length_append, List.length_cons, List.length_nil, List.length_set, List.length_replicate, List.length_take, List.length_drop, List.length_reverse]); first | assumption | lia) | decide), ?_⟩)
    exact less_of
  · rw [zipw_map _ (pr k) (fun _ _ => rfl)]
    refine .inl ⟨rfl, ?_⟩
    have hzs := zip_snd hrm
    have hzl : (rs.zip ms).length = ms.length := by rw [List.length_zip, hrm, Nat.min_self]
    repeat (with_reducible first | (refine x_name ?_; refine ⟨_, by with_unfolding_all rfl, ?_⟩) | refine l_cons ?_ | refine l_nil ?_ | refine e_call ?_ | refine s_unpack ?_ | refine k_ref (Prg.keep (by assumption) (by decide)) ?_ | (refine e_glob (g_mul_school (by assumption)) ?_) | (refine e_glob (g_divrem_school (by assumption)) ?_) | (refine e_glob (g_chinese (by assumption)) ?_) | (refine e_glob (g_law_inverse (by assumption)) ?_) | (with_unfolding_all refine b_next ?_))
    refine call_f (ps := [.list ((rs.zip ms).map (pr k)), .int k, .ref (ad 22), .ref (ad 28), .ref (ad 35)]) rfl (chinese_ok P hk (rs.zip ms) (by lia) (fun p hp' => ?_) (by rw [hzs]; lia) (fun p hp' => ?_)) (Nat.le_of_ble_eq_true rfl) ?_
    · obtain ⟨a, b⟩ := p
      have h1 := List.of_mem_zip hp'
      exact ⟨by have := D.rs a h1.1; lia, hp b h1.2, hs b h1.2⟩
    · rw [hzs]
      obtain ⟨i, hi⟩ := List.getElem?_of_mem hp'
      exact crt_inv D.apart D.mem (zip_get hi).2
    rintro _ ⟨ss, hsl, ht, rfl⟩
    rw [hzs]
    rw [hzs] at ht
    refine lift_v ?_
    have hvP : cs ss ms % prod ms < prod ms := Nat.mod_lt _ (prod_pos hp)
    obtain ⟨v, hv⟩ : ∃ v, cs ss ms % prod ms = v := ⟨_, rfl⟩
    rw [hv]
    rw [hv] at hvP
    have hres : ∀ (i r m : Nat), rs[i]? = some r → ms[i]? = some m → v % m = r % m := fun i r m h1 h2 => by
      have h3 : (rs.zip ms)[i]? = some (r, m) := by rw [List.getElem?_zip_eq_some]; exact ⟨h1, h2⟩
      have hi := (List.getElem?_eq_some_iff.mp h3).1
      obtain ⟨f, s, e1, e2, e3⟩ := ht i (r, m) (by lia) h3
      rw [← hv]
      exact crt_res (by lia) h2 e1 e2 e3
    have lv := limbs_len2 (k := 30) hk.1 (show v < 2 ^ 30 by lia)
    have lP := limbs_len2 hk.1 hP
    repeat (with_reducible first | (refine x_name ?_; refine ⟨_, by with_unfolding_all rfl, ?_⟩) | refine l_cons ?_ | refine l_nil ?_ | refine ⟨rfl, ?_⟩ | refine sto_l ?_ | refine e_call ?_ | refine x_assign ?_ | refine k_ref (Prg.keep (by assumption) (by decide)) ?_ | refine sto_c (by assumption) ?_ | refine xa_name ?_ | refine a_tup ?_ | refine as_consm ?_ | refine as_nilm ?_ | (refine e_glob (g_law_value (by assumption)) ?_) | (with_unfolding_all refine b_next ?_))
    refine call_v (law_value_ok P (n := v) hk (by lia)) ?_
    refine ⟨rfl, ?_⟩
    have hlt2 := hvP
    repeat (with_reducible first | (refine x_name ?_; refine ⟨_, by with_unfolding_all rfl, ?_⟩) | refine l_cons ?_ | refine l_nil ?_ | refine t_cmp ?_ | refine e_call ?_ | refine s_if ?_ | refine k_ref (Prg.keep (by assumption) (by decide)) ?_ | refine t_bool ?_ | refine all_or ?_ | (refine e_glob (g_law_value (by assumption)) ?_) | (with_unfolding_all refine b_if ?_))
    refine call_v (law_value_ok P (n := prod ms) hk (by lia)) ?_
    repeat (with_reducible first | (refine x_name ?_; refine ⟨_, by with_unfolding_all rfl, ?_⟩) | refine e_nat ?_ | refine ⟨_, rfl, ?_⟩ | refine t_cmp ?_ | refine s_if ?_ | refine b_nil ?_ | refine then_next ?_ | refine ite_ff ?_ | (refine ite_t ?_ ?_; (first | assumption | (with_unfolding_all exact Nat.le_of_ble_eq_true rfl) | (apply Nat.le_trans; assumption; with_unfolding_all exact Nat.le_of_ble_eq_true rfl) | (apply Nat.lt_of_le_of_lt; assumption; with_unfolding_all exact Nat.le_of_ble_eq_true rfl) | ((try simp only [List.length_map, List.length_append, List.length_cons, List.length_nil, List.length_set, List.length_replicate, List.length_take, List.length_drop, List.length_reverse]); first | assumption | lia) | decide)) | (refine ite_f ?_ ?_; (first | assumption | (with_unfolding_all exact Nat.le_of_ble_eq_true rfl) | (apply Nat.le_trans; assumption; with_unfolding_all exact Nat.le_of_ble_eq_true rfl) | (apply Nat.lt_of_le_of_lt; assumption; with_unfolding_all exact Nat.le_of_ble_eq_true rfl) | ((try simp only [List.length_map, List.length_append, List.length_cons, List.length_nil, List.length_set, List.length_replicate, List.length_take, List.length_drop, List.length_reverse]); first | assumption | lia) | decide)) | (refine ite_nt ?_ ?_; (first | assumption | (with_unfolding_all exact Nat.le_of_ble_eq_true rfl) | (apply Nat.le_trans; assumption; with_unfolding_all exact Nat.le_of_ble_eq_true rfl) | (apply Nat.lt_of_le_of_lt; assumption; with_unfolding_all exact Nat.le_of_ble_eq_true rfl) | ((try simp only [List.length_map, List.length_append, List.length_cons, List.length_nil, List.length_set, List.length_replicate, List.length_take, List.length_drop, List.length_reverse]); first | assumption | lia) | decide)) | refine lt_nn ?_ | refine ne_nn ?_ | refine le_nn ?_ | refine t_not ?_ | refine t_chain ?_ | refine all_or ?_ | refine all_or_nil ?_ | (with_unfolding_all refine b_if ?_))
    refine e_comp ?_
    repeat (with_reducible first | (refine x_name ?_; refine ⟨_, by with_unfolding_all rfl, ?_⟩) | refine ⟨rfl, ?_⟩ | refine ⟨_, rfl, ?_⟩ | refine it_zip ?_ | refine b_zip (by assumption) ?_)
    refine comp_zip_none [(Nm "value", pn v)] (by lia) hrm ?_ ?_
    · intro C0 bs' h1 h2 j r m hr hm
      have hm0 := hp m (List.mem_of_getElem? hm)
      have e := hres j r m hr hm
      repeat (with_reducible first | (refine x_name ?_; refine ⟨_, by with_unfolding_all rfl, ?_⟩) | refine e_bin ?_ | refine sto_l ?_ | refine ⟨_, rfl, ?_⟩ | refine t_cmp ?_ | (refine mod_nn ?_ ?_; (first | assumption | (with_unfolding_all exact Nat.le_of_ble_eq_true rfl) | (apply Nat.le_trans; assumption; with_unfolding_all exact Nat.le_of_ble_eq_true rfl) | (apply Nat.lt_of_le_of_lt; assumption; with_unfolding_all exact Nat.le_of_ble_eq_true rfl) | ((try simp only [List.length_map, List.length_append, List.length_cons, List.length_nil, List.length_set, List.length_replicate, List.length_take, List.length_drop, List.length_reverse]); first | assumption | lia) | decide)) | refine ne_nn ?_ | refine xa_name ?_ | refine as_cons ?_ | refine as_nil ?_)
      exact ⟨by simp [e], less_of⟩
    · refine .inl ?_
      repeat (with_reducible first | refine l_nil ?_ | refine e_list ?_ | refine ⟨[], rfl, by decide, ?_⟩)
      refine .inl ?_
      refine ne_00 ⟨false, rfl, ?_⟩
      rw [if_neg (by decide)]
      exact b_nil (then_next (W.state _ _ h))
theorem law_s5 (P : Prg K ad) (hc : bs.cellsOwn = true) {k many : Nat} {ms rs : List Nat} {O : Option (List PV)} (D : Dealt k many ms rs)
    (h : WB (LC prog w K bs L (ad 38) q cd) (lawHead.drop 19) ⟨[(Nm "w", pn k), (Nm "rows", .pv (lev k ms))], [O, none]⟩ LQ) :
    WB (LC prog w K bs L (ad 38) q cd) (lawHead.drop 15) ⟨[(Nm "w", pn k), (Nm "many", pn many), (Nm "moduli", .pv (row ms)), (Nm "rests", .pv (row rs)), (Nm "rows", .pv (lev k ms)), (Nm "whole", pn (prod ms)), (Nm "levels", .pv (.list ((tree ms).map (lev k)))), (Nm "pairs", .pv (.list ((rs.zip ms).map (pr k))))], [O, none]⟩ LQ := by
  have hk := D.k
  obtain ⟨hp, hs, hP, hml, hrl, hrm⟩ := D.small
  have hzl : (rs.zip ms).length = ms.length := by rw [List.length_zip, hrm, Nat.min_self]
  have hsp : sp (rs.zip ms) < 2 ^ 40 := by
    have : ∀ l : List (Nat × Nat), (∀ p ∈ l, p.1 < 200 ∧ p.2 < 1000) → sp l ≤ l.length * 200000 := fun l => by
      induction l with
      | nil => intro _; simp [sp]
      | cons p l ih =>
        intro hh
        have h1 := ih fun x hx => hh x (by simp [hx])
        have h2 := hh p (by simp)
        have h3 : p.1 * p.2 ≤ 200 * 1000 := Nat.mul_le_mul (by lia) (by lia)
        rw [sp, List.length_cons]; lia
    have := this (rs.zip ms) fun p hp' => by
      obtain ⟨a, b⟩ := p
      have h1 := List.of_mem_zip hp'
      exact ⟨D.rs a h1.1, hs b h1.2⟩
    lia
  refine b_next ?_
  repeat (with_reducible first | refine l_cons ?_ | refine sto_l ?_ | refine e_call ?_ | refine x_assign ?_ | refine k_bi ?_ | refine b_sum (by assumption) ?_)
  refine e_comp ?_
  repeat (with_reducible first | (refine x_name ?_; refine ⟨_, by with_unfolding_all rfl, ?_⟩) | refine ⟨rfl, ?_⟩ | refine ⟨_, rfl, ?_⟩ | refine it_zip ?_ | refine b_zip (by assumption) ?_)
  refine comp_zip (g := fun r m => pnat (r * m)) [] (by lia) hrm ?_ ?_
  · intro C0 bs' h1 h2 j r m hr hm
    have hb : r < 2 ^ 60 ∨ m < 2 ^ 60 := .inl (by have := D.rs r (List.mem_of_getElem? hr); lia)
    repeat (with_reducible first | (refine x_name ?_; refine ⟨_, by with_unfolding_all rfl, ?_⟩) | refine e_bin ?_ | refine ⟨rfl, ?_⟩ | refine sto_l ?_ | (refine mul_nn ?_ ?_; (first | assumption | (with_unfolding_all exact Nat.le_of_ble_eq_true rfl) | (apply Nat.le_trans; assumption; with_unfolding_all exact Nat.le_of_ble_eq_true rfl) | (apply Nat.lt_of_le_of_lt; assumption; with_unfolding_all exact Nat.le_of_ble_eq_true rfl) | ((try simp only [List.length_map, List.length_append, List.length_cons, List.length_nil, List.length_set, List.length_replicate, List.length_take, List.length_drop, List.length_reverse]); first | assumption | lia) | decide)) | refine xa_name ?_ | refine as_cons ?_ | refine as_nil ?_)
    exact less_of
  · have e : List.zipWith (fun r m => pnat (r * m)) rs ms = ((rs.zip ms).map fun p => p.1 * p.2).map pnat := by
      rw [zipw_map _ (fun p => pnat (p.1 * p.2)) (fun _ _ => rfl), List.map_map]; rfl
    rw [e]
    refine .inl ?_
    refine l_nil (f_sum_n (by rw [sp_sum]; lia) ?_)
    rw [sp_sum]
    have lsp := limbs_len2 hk.1 hsp
    repeat (with_reducible first | (refine x_name ?_; refine ⟨_, by with_unfolding_all rfl, ?_⟩) | refine l_cons ?_ | refine l_nil ?_ | refine ⟨rfl, ?_⟩ | refine t_cmp ?_ | refine e_call ?_ | refine s_if ?_ | refine k_ref (Prg.keep (by assumption) (by decide)) ?_ | (refine e_glob (g_law_value (by assumption)) ?_) | (refine e_glob (g_mul_school (by assumption)) ?_) | (refine e_glob (g_sum_of_products (by assumption)) ?_) | (with_unfolding_all refine b_if ?_))
    refine call_v (sum_of_products_ok P hk (rs.zip ms) (by lia) (fun p hp' => ?_) (by lia)) ?_
    · obtain ⟨a, b⟩ := p
      have h1 := List.of_mem_zip hp'
      exact ⟨by have := D.rs a h1.1; lia, by have := hs b h1.2; lia⟩
    repeat (with_reducible first | (refine x_name ?_; refine ⟨_, by with_unfolding_all rfl, ?_⟩) | refine l_cons ?_ | refine l_nil ?_)
    refine call_v (law_value_ok P (n := sp (rs.zip ms)) hk (by lia)) ?_
    repeat (with_reducible first | (refine x_name ?_; refine ⟨_, by with_unfolding_all rfl, ?_⟩) | refine ⟨_, rfl, ?_⟩ | refine b_nil ?_ | refine then_next ?_ | (refine ite_f ?_ ?_; (first | assumption | (with_unfolding_all exact Nat.le_of_ble_eq_true rfl) | (apply Nat.le_trans; assumption; with_unfolding_all exact Nat.le_of_ble_eq_true rfl) | (apply Nat.lt_of_le_of_lt; assumption; with_unfolding_all exact Nat.le_of_ble_eq_true rfl) | ((try simp only [List.length_map, List.length_append, List.length_cons, List.length_nil, List.length_set, List.length_replicate, List.length_take, List.length_drop, List.length_reverse]); first | assumption | lia) | decide)) | refine ne_nn ?_ | (with_unfolding_all refine b_next ?_))
    refine s_assign_comp ⟨rfl, .inl rfl⟩ ?_
    repeat (with_reducible first | (refine x_name ?_; refine ⟨_, by with_unfolding_all rfl, ?_⟩) | refine ⟨_, rfl, ?_⟩ | refine it_list ?_)
    refine comp_inv (g := num k) [(Nm "w", pn k)] (by lia) ?_ ?_
    · intro C0 bs' h1 h2 j r hr
      have l1 := limbs_len2 (k := 8) hk.1 (show r < 2 ^ 8 by have := D.rs r (List.mem_of_getElem? hr); lia)
      repeat (with_reducible first | (refine x_name ?_; refine ⟨_, by with_unfolding_all rfl, ?_⟩) | refine l_cons ?_ | refine l_nil ?_ | refine sto_l ?_ | refine e_call ?_ | refine k_ref (Prg.keep (by assumption) (by decide)) ?_ | refine xa_name ?_ | (refine e_glob (g_law_row (by assumption)) ?_))
      refine call_n (law_row_ok P (n := r) hk (by lia)) (.inl ?_)
      repeat (with_reducible first | refine ⟨rfl, ?_⟩)
      exact less_of
    · refine .inl ⟨rfl, ?_⟩
      refine b_mid (fun σ => Less σ ⟨[(Nm "w", pn k), (Nm "rows", .pv (lev k ms))], [O, none]⟩) ?_ (fun σ hh => W.less hh h)
      by_cases hm0 : many = 0
      · repeat (with_reducible first | (refine x_name ?_; refine ⟨_, by with_unfolding_all rfl, ?_⟩) | refine e_nat ?_ | refine ⟨rfl, ?_⟩ | refine ⟨_, rfl, ?_⟩ | refine t_cmp ?_ | refine s_if ?_ | refine b_nil ?_ | refine ite_ff ?_ | (refine ite_f ?_ ?_; (first | assumption | (with_unfolding_all exact Nat.le_of_ble_eq_true rfl) | (apply Nat.le_trans; assumption; with_unfolding_all exact Nat.le_of_ble_eq_true rfl) | (apply Nat.lt_of_le_of_lt; assumption; with_unfolding_all exact Nat.le_of_ble_eq_true rfl) | ((try simp only [List.length_map, List.length_append, List.length_cons, List.length_nil, List.length_set, List.length_replicate, List.length_take, List.length_drop, List.length_reverse]); first | assumption | lia) | decide)) | refine gt_nn ?_ | refine t_bool ?_ | refine all_and ?_)
        exact less_of
      · have hl1 : 1 ≤ ms.length ∧ ms.length ≤ 100 := by have := D.len; lia
        have hcb : cs rs ms < 2 ^ 60 := by
          have h1 := cs_bound rs ms D.rs hp
          have h2 : 200 * ms.length * prod ms ≤ 1000 * 2 ^ 30 := Nat.mul_le_mul (by lia) (by lia)
          lia
        have lcs := limbs_len2 hk.1 hcb
        repeat (with_reducible first | (refine x_name ?_; refine ⟨_, by with_unfolding_all rfl, ?_⟩) | refine e_nat ?_ | refine l_cons ?_ | refine l_nil ?_ | refine ⟨_, rfl, ?_⟩ | refine t_cmp ?_ | refine e_call ?_ | refine s_if ?_ | (refine ite_t ?_ ?_; (first | assumption | (with_unfolding_all exact Nat.le_of_ble_eq_true rfl) | (apply Nat.le_trans; assumption; with_unfolding_all exact Nat.le_of_ble_eq_true rfl) | (apply Nat.lt_of_le_of_lt; assumption; with_unfolding_all exact Nat.le_of_ble_eq_true rfl) | ((try simp only [List.length_map, List.length_append, List.length_cons, List.length_nil, List.length_set, List.length_replicate, List.length_take, List.length_drop, List.length_reverse]); first | assumption | lia) | decide)) | refine k_ref (Prg.keep (by assumption) (by decide)) ?_ | refine gt_nn ?_ | refine t_bool ?_ | refine all_and ?_ | (refine e_glob (g_law_value (by assumption)) ?_) | (refine e_glob (g_mul_school (by assumption)) ?_) | (refine e_glob (g_crossed (by assumption)) ?_))
        refine call_v (crossed_ok P hk rs ms hl1 hrm hp (by lia) (by lia)) ?_
        repeat (with_reducible first | (refine x_name ?_; refine ⟨_, by with_unfolding_all rfl, ?_⟩) | refine l_cons ?_ | refine l_nil ?_)
        refine call_v (law_value_ok P (n := cs rs ms) hk (by lia)) ?_
        repeat (with_reducible first | refine l_cons ?_ | refine e_call ?_ | refine k_bi ?_ | refine b_sum (by assumption) ?_)
        refine e_comp ?_
        repeat (with_reducible first | (refine x_name ?_; refine ⟨_, by with_unfolding_all rfl, ?_⟩) | refine ⟨rfl, ?_⟩ | refine ⟨_, rfl, ?_⟩ | refine it_zip ?_ | refine b_zip (by assumption) ?_)
        refine comp_zip (g := fun r m => pnat (r * (prod ms / m))) [(Nm "whole", pn (prod ms))] (by lia) hrm ?_ ?_
        · intro C0 bs' h1 h2 j r m hr hm
          have hm0 := hp m (List.mem_of_getElem? hm)
          have hm1 := hs m (List.mem_of_getElem? hm)
          have hb : r < 2 ^ 60 ∨ prod ms / m < 2 ^ 60 := .inl (by have := D.rs r (List.mem_of_getElem? hr); lia)
          repeat (with_reducible first | (refine x_name ?_; refine ⟨_, by with_unfolding_all rfl, ?_⟩) | refine e_bin ?_ | refine ⟨rfl, ?_⟩ | refine sto_l ?_ | (refine mul_nn ?_ ?_; (first | assumption | (with_unfolding_all exact Nat.le_of_ble_eq_true rfl) | (apply Nat.le_trans; assumption; with_unfolding_all exact Nat.le_of_ble_eq_true rfl) | (apply Nat.lt_of_le_of_lt; assumption; with_unfolding_all exact Nat.le_of_ble_eq_true rfl) | ((try simp only [List.length_map, List.length_append, List.length_cons, List.length_nil, List.length_set, List.length_replicate, List.length_take, List.length_drop, List.length_reverse]); first | assumption | lia) | decide)) | (refine div_nn ?_ ?_ ?_; (first | assumption | (with_unfolding_all exact Nat.le_of_ble_eq_true rfl) | (apply Nat.le_trans; assumption; with_unfolding_all exact Nat.le_of_ble_eq_true rfl) | (apply Nat.lt_of_le_of_lt; assumption; with_unfolding_all exact Nat.le_of_ble_eq_true rfl) | ((try simp only [List.length_map, List.length_append, List.length_cons, List.length_nil, List.length_set, List.length_replicate, List.length_take, List.length_drop, List.length_reverse]); first | assumption | lia) | decide); (first | assumption | (with_unfolding_all exact Nat.le_of_ble_eq_true rfl) | (apply Nat.le_trans; assumption; with_unfolding_all exact Nat.le_of_ble_eq_true rfl) | (apply Nat.lt_of_le_of_lt; assumption; with_unfolding_all exact Nat.le_of_ble_eq_true rfl) | ((try simp only [List.length_map, List.length_append, List.length_cons, List.length_nil, List.length_set, List.length_replicate, List.length_take, List.length_drop, List.length_reverse]); first | assumption | lia) | decide)) | refine xa_name ?_ | refine as_cons ?_ | refine as_nil ?_)
          exact less_of
        · have e : List.zipWith (fun r m => pnat (r * (prod ms / m))) rs ms = ((rs.zip ms).map fun p => p.1 * (prod ms / p.2)).map pnat := by
            rw [zipw_map _ (fun p => pnat (p.1 * (prod ms / p.2))) (fun _ _ => rfl), List.map_map]; rfl
          rw [e]
          refine .inl ?_
          refine l_nil (f_sum_n (by rw [cs_eq hp]; lia) ?_)
          rw [cs_eq hp]
          repeat (with_reducible first | refine ⟨rfl, ?_⟩ | refine ⟨_, rfl, ?_⟩ | refine b_nil ?_ | refine ite_ff ?_ | (refine ite_f ?_ ?_; (first | assumption | (with_unfolding_all exact Nat.le_of_ble_eq_true rfl) | (apply Nat.le_trans; assumption; with_unfolding_all exact Nat.le_of_ble_eq_true rfl) | (apply Nat.lt_of_le_of_lt; assumption; with_unfolding_all exact Nat.le_of_ble_eq_true rfl) | ((try simp only [List.length_map, List.length_append, List.length_cons, List.length_nil, List.length_set, List.length_replicate, List.length_take, List.length_drop, List.length_reverse]); first | assumption | lia) | decide)) | refine ne_nn ?_)
          exact less_of
theorem law_s6 (P : Prg K ad) (hc : bs.cellsOwn = true) {k : Nat} {ms : List Nat} {O : Option (List PV)} (hk : 1 ≤ k ∧ k ≤ 20) (hml : ms.length ≤ 5)
    (h : WB (LC prog w K bs L (ad 38) q cd) (lawHead.drop 20) ⟨[(Nm "w", pn k), (Nm "odd", .pv (lev k (ms ++ [2, 6])))], [O, none]⟩ LQ) :
    WB (LC prog w K bs L (ad 38) q cd) (lawHead.drop 19) ⟨[(Nm "w", pn k), (Nm "rows", .pv (lev k ms))], [O, none]⟩ LQ := by
  have l2 := limbs_len2 (k := 3) (n := 2) hk.1 (by decide)
  have l6 := limbs_len2 (k := 3) (n := 6) hk.1 (by decide)
  refine b_next ?_
  repeat (with_reducible first | (refine x_name ?_; refine ⟨_, by with_unfolding_all rfl, ?_⟩) | refine e_nat ?_ | refine l_cons ?_ | refine l_nil ?_ | refine e_bin ?_ | refine e_call ?_ | refine x_assign ?_ | refine k_ref (Prg.keep (by assumption) (by decide)) ?_ | refine e_list ?_ | refine sto_c (by assumption) ?_ | (refine e_glob (g_law_row (by assumption)) ?_))
  refine call_n (law_row_ok P (n := 2) hk (by lia)) (.inl ?_)
  repeat (with_reducible first | (refine x_name ?_; refine ⟨_, by with_unfolding_all rfl, ?_⟩) | refine e_nat ?_ | refine l_cons ?_ | refine l_nil ?_ | refine e_call ?_ | refine k_ref (Prg.keep (by assumption) (by decide)) ?_ | (refine e_glob (g_law_row (by assumption)) ?_))
  refine call_n (law_row_ok P (n := 6) hk (by lia)) (.inl ?_)
  refine l_nil ⟨[num k 2, num k 6], rfl, by simp, .inl ?_⟩
  refine add_ll_n (f := num k) (xs := ms) (ys := [2, 6]) rfl rfl (by simp; lia) (.inl ?_)
  exact ⟨rfl, W.state _ _ h⟩
end
end CR
namespace CR
open PySem PySem.W PyProof.Rows

/-! raises: what stands under the words of a body -/
structure Under (C : Cx) (B : Heap) (outer : List Env) : Prop where
  stays : ∀ b o, B.get? b = some o → C.bs.kv b = some o
  outs : ∀ h, Sees C.bs.kv h → h.FunFrames B outer
  frame : C.env.frame = some C.env.locals
  kind : C.env.scope.kind ≠ .module
  fr : ∀ A, C.fr A → A.frames = some (C.env :: outer)

def Thrown (C : Cx) (B : Heap) (outer : List Env) (k : Value) (s₁ : Shared) (e : Addr) (h' : Heap) : Prop :=
  (∃ vs, Heap.MadeExcOf s₁.heap h' e k vs) ∨ (∃ a0, Heap.HeldW B (C.env :: outer) e k a0 C.env.locals h' ∧ s₁.heap.UpToSlots h') ∨ (∃ a0, Heap.FlyingW B (C.env :: outer) e k a0 h' ∧ s₁.heap.UpToSlots h')

def ThrowE (C : Cx) (B : Heap) (outer : List Env) (k : Value) (V : View) (ads : List Addr) (E : Value → Shared → Prop) : Prop :=
  ∀ e σ₁ V₁ ads₁ s₁ h', V.Le V₁ → Pre ads ads₁ → C.R σ₁ V₁ ads₁ s₁ → Thrown C B outer k s₁ e h' → E (.ref e) { s₁ with heap := h' }

def WX (C : Cx) (B : Heap) (outer : List Env) (k : Value) {α β : Type} (Rp : View → List Addr → α → β → Prop) (t : Sem β) (σ : St) (Q : α → St → Prop) : Prop :=
  ∀ (A : Around) (E : Value → Shared → Prop) (s : Shared) (V : View) (ads : List Addr) (Q' : β → Shared → Prop), RoomF A C.d C.fr → C.R σ V ads s → Goes C Rp Q V ads Q' → ThrowE C B outer k V ads E → wpAny (model C.prog C.w) A t Q' E s

abbrev XS (C : Cx) (B : Heap) (outer : List Env) (k : Value) (st : Stmt) (σ : St) (Q : RF → St → Prop) : Prop := WX C B outer k FlowRep (exec st C.env) σ Q
abbrev XB (C : Cx) (B : Heap) (outer : List Env) (k : Value) (b : List Stmt) (σ : St) (Q : RF → St → Prop) : Prop := WX C B outer k FlowRep (execs b C.env) σ Q

section
variable {C : Cx} {σ : St} {B : Heap} {outer : List Env} {k : Value}

theorem ThrowE.later {V V' : View} {ads ads' : List Addr} {E : Value → Shared → Prop} (t : ThrowE C B outer k V ads E) (le : V.Le V') (pr : Pre ads ads') : ThrowE C B outer k V' ads' E :=
  fun e σ₁ V₁ ads₁ s₁ h' l p => t e σ₁ V₁ ads₁ s₁ h' (le.trans l) (pr.trans p)

theorem x_of {α β : Type} {Rp : View → List Addr → α → β → Prop} {t : Sem β} {Q : α → St → Prop} (h : W C Rp t σ Q) : WX C B outer k Rp t σ Q := fun A E s V ads Q' rm R g _ => h A E s V ads Q' rm R g

theorem Under.at {V : View} {ads : List Addr} {s : Shared} (U : Under C B outer) (R : C.R σ V ads s) : B.StaysIn s.heap ∧ s.heap.FunFrames B (C.env :: outer) ∧ B.get? C.env.locals = none := by
  have hn : B.get? C.env.locals = none := by
    cases e : B.get? C.env.locals with
    | none => rfl
    | some o => have := U.stays _ _ e; rw [R.kL] at this; cases this
  obtain ⟨m, hN, _⟩ := R.frame
  exact ⟨fun b o e => R.keep b o (U.stays b o e), Heap.FunFrames.cons U.kind U.frame hN hn (U.outs _ R.keep), hn⟩

theorem xb_cons {st : Stmt} {rest : List Stmt} {Q : RF → St → Prop} (h : XS C B outer k st σ fun f σ₁ => match f with | .next => XB C B outer k rest σ₁ Q | f => Q f σ₁) : XB C B outer k (st :: rest) σ Q := fun A E s V ads Q' rm R g tE =>
  wpAny_execs_cons (h A E s V ads _ rm R (fun f s₁ V₁ ads₁ r σ₁ le₁ pr₁ R₁ r₁ h₁ => by
    cases r with
    | next => cases r₁; exact h₁ A E s₁ V₁ ads₁ Q' rm R₁ (g.later le₁ pr₁) (tE.later le₁ pr₁)
    | brk => cases r₁; exact g _ s₁ V₁ ads₁ RF.brk σ₁ le₁ pr₁ R₁ rfl h₁
    | cont => cases r₁; exact g _ s₁ V₁ ads₁ RF.cont σ₁ le₁ pr₁ R₁ rfl h₁
    | ret l =>
      obtain ⟨v, rfl, hr⟩ := r₁
      exact g _ s₁ V₁ ads₁ (RF.ret l) σ₁ le₁ pr₁ R₁ ⟨v, rfl, hr⟩ h₁) tE)
theorem xb_next {st : Stmt} {rest : List Stmt} {Q : RF → St → Prop} (h : WS C st σ fun f σ₁ => f = .next ∧ XB C B outer k rest σ₁ Q) : XB C B outer k (st :: rest) σ Q :=
  xb_cons (x_of (W.mono h fun f σ₁ ⟨e, h⟩ => by subst e; exact h))
theorem xb_one {st : Stmt} {Q : RF → St → Prop} (h : XS C B outer k st σ Q) : XB C B outer k [st] σ Q :=
  xb_cons fun A E s V ads Q' rm R g tE => h A E s V ads Q' rm R (fun f s₁ V₁ ads₁ r σ₁ le₁ pr₁ R₁ r₁ h₁ => g f s₁ V₁ ads₁ r σ₁ le₁ pr₁ R₁ r₁ (by
    cases r with
    | next => exact x_of (b_nil h₁)
    | brk => exact h₁
    | cont => exact h₁
    | ret l => exact h₁)) tE

theorem x_if {test : Expr} {body orelse : List Stmt} {pos : Pos} {Q : RF → St → Prop} (h : WT C test σ fun b σ₁ => if b then XB C B outer k body σ₁ Q else XB C B outer k orelse σ₁ Q) : XS C B outer k (.If test body orelse pos) σ Q := fun A E s V ads Q' rm R g tE =>
  wpAny_If (h A E s V ads _ rm R fun b s₁ V₁ ads₁ t σ₁ le₁ pr₁ R₁ r₁ h₁ => by
    subst r₁
    cases b
    · simp only [Bool.false_eq_true, if_false] at h₁ ⊢
      exact h₁ A E s₁ V₁ ads₁ Q' rm R₁ (g.later le₁ pr₁) (tE.later le₁ pr₁)
    · simp only [if_true] at h₁ ⊢
      exact h₁ A E s₁ V₁ ads₁ Q' rm R₁ (g.later le₁ pr₁) (tE.later le₁ pr₁))

/-- an exception, noted at the frame -/
theorem noted_held {A : Around} {V : View} {ads : List Addr} {s₁ : Shared} {e : Addr} {h' : Heap} {E : Value → Shared → Prop} {Q : Unit → Shared → Prop} (U : Under C B outer) (fr : C.fr A) (R : C.R σ V ads s₁) (t : Thrown C B outer k s₁ e h')
    (q : ∀ h'' a0, Heap.HeldW B (C.env :: outer) e k a0 C.env.locals h'' → s₁.heap.UpToSlots h'' → Q () { s₁ with heap := h'' }) : wpAny (model C.prog C.w) A (noteFrame (.ref e) C.env) Q E { s₁ with heap := h' } := by
  obtain ⟨st, ff, hn⟩ := U.at R
  have hf := U.frame
  rcases t with ⟨vs, hx⟩ | ⟨a0, hh, up⟩ | ⟨a0, fl, up⟩
  · obtain ⟨t, he, htn, ht⟩ := hx.there
    have fresh : ∀ b, s₁.heap.get? b = none → B.get? b = none := fun b hb => by
      cases hq : B.get? b with
      | none => rfl
      | some o' => have := st b o' hq; rw [hb] at this; cases this
    unfold noteFrame
    simp only [hf]
    refine wpAny_bind (wpAny_field he rfl (x := .none) rfl ?_)
    rw [if_neg (by decide)]
    refine wpAny_entryW (A := A) (a0 := .ref t) (U.fr A fr) (ff.of_keeps fun b o hb _ => ⟨o, hx.keeps b o hb, rfl⟩) hf he (fun b o hb => hx.keeps b o (st b o hb)) (fresh e hx.new) rfl (by simp) rfl fun h'' hN => ?_
    obtain ⟨k1, k2, k3, k4⟩ := hN
    exact q h'' _ ⟨k1, fresh e hx.new, k2, k3⟩ ((Heap.UpToSlots.of_keeps hx.keeps).trans k4)
  · exact wpAny_noteFrame_againW hf hh.2.2.2 (q h' a0 hh up)
  · exact wpAny_looks_onW (U.fr A fr) hf fl fun h₂ hh up₂ => q h₂ a0 hh (up.trans up₂)

theorem flight_again {M : Model} {A : Around} {E : Value → Shared → Prop} {s : Shared} {base : Heap} {l : List Env} {e L : Addr} {cls a0 : Value} {Q : Unit → Shared → Prop} (hh : Heap.HeldW base l e cls a0 L s.heap)
    (q : ∀ h', Heap.HeldW base l e cls a0 L h' → s.heap.UpToSlots h' → Q () { s with heap := h' }) : wpAny M A (setFlight (.ref e) (some L)) Q E s := by
  obtain ⟨f1, f2, f3, oe, vs, T, oT, ts, he, hc, hd, h1, hnT, hTe, hT, hdT, h3⟩ := hh
  have far : ∀ b, b ≠ T → (s.heap.update T (Obj.mapFields (·.setIfInBounds 3 ((some L).elim Value.none fun f => rawInt f)))).get? b = s.heap.get? b := fun b hb => Heap.get?_update_other _ _ (Ne.symm hb)
  have plain : ∀ b o, s.heap.get? b = some o → (∀ vs, o.data ≠ .fields vs) → b ≠ T := fun b o hb hnf q => by
    rw [q, hT] at hb; cases hb; exact hnf ts hdT
  have keep : ∀ b o, s.heap.get? b = some o → (∀ vs, o.data ≠ .fields vs) → (s.heap.update T (Obj.mapFields (·.setIfInBounds 3 ((some L).elim Value.none fun f => rawInt f)))).get? b = some o := fun b o hb hnf => (far b (plain b o hb hnf)).trans hb
  have hs3 : 3 < ts.size := (Array.getElem?_eq_some_iff.mp h3).1
  unfold setFlight
  refine wpAny_bind (wpAny_field he hd h1 ?_)
  rw [if_pos (show (Value.ref T != Value.none) = true from by simp)]
  refine wpAny_setField hT hdT hs3 (q _ ⟨fun b o hbo => ?_, f2, f3.of_keeps fun b o hb hnf => ⟨o, keep b o hb hnf, rfl⟩, oe, vs, T, _, _, (far e (Ne.symm hTe)).trans he, hc, hd, h1, hnT, hTe, Heap.get?_update_self _ hT (Obj.isFreed_of_fields (Obj.data_mapFields hdT _)), Obj.data_mapFields hdT _, by simp [hs3]⟩ fun b o hb hnf => ⟨o.slots, keep b o hb hnf⟩)
  exact (far b fun q => by rw [q, hnT] at hbo; cases hbo).trans (f1 b o hbo)

theorem ThrowE.noted {A : Around} {V : View} {ads : List Addr} {E : Value → Shared → Prop} (U : Under C B outer) (fr : C.fr A) (t : ThrowE C B outer k V ads E) : ThrowE C B outer k V ads (notedBy (model C.prog C.w) A C.env (cameBackBy (model C.prog C.w) A C.env E)) :=
  fun e σ₁ V₁ ads₁ s₁ h' le pr R th => by
    unfold notedBy cameBackBy
    refine noted_held U fr R th fun h'' a0 hh up => ?_
    have hf := U.frame
    rw [hf]
    obtain ⟨_, _, _, oe, vs, T, _, _, he, _, hd, h1, _⟩ := id hh
    refine wpAny_bind (wpAny_field he hd h1 ?_)
    rw [if_neg (show ¬ ((Value.ref T == Value.none) = true) from by simp)]
    refine flight_again hh fun h₃ hh₃ up₃ => ?_
    exact t e σ₁ V₁ ads₁ s₁ h₃ le pr R (.inr (.inl ⟨a0, hh₃, up.trans up₃⟩))

/-- what stood around still stands -/
def KvLe (bs bs' : Base) : Prop := ∀ b o, bs.kv b = some o → bs'.kv b = some o
theorem Under.wb {bs' : Base} (U : Under C B outer) (h : KvLe C.bs bs') : Under (C.wb bs') B outer :=
  ⟨fun b o e => h b o (U.stays b o e), fun x s => U.outs x fun b o e => s b o (h b o e), U.frame, U.kind, U.fr⟩

def LoopX (C : Cx) (B : Heap) (outer : List Env) (k : Value) (target : Expr) (body : List Stmt) (items : List Item) (σ : St) (Q : RF → St → Prop) : Prop :=
  ∃ Inv : Nat → St → Prop, Inv 0 σ ∧ (∀ (i : Nat) x σ₂, items[i]? = some x → Inv i σ₂ → ∀ bs', bs'.lent = C.bs.lent → bs'.cellsOwn = C.bs.cellsOwn → KvLe C.bs bs' → WItem (C.wb bs') target x σ₂ fun σ₃ => XB (C.wb bs') B outer k body σ₃ (LoopQ Q (Inv (i + 1)))) ∧
    ∀ σ₂, Inv items.length σ₂ → Q .next σ₂

theorem x_for {target iter : Expr} {body : List Stmt} {pos : Pos} {Q : RF → St → Prop} (U : Under C B outer) (h : WIter C target iter σ fun items σ₁ => LoopX C B outer k target body items σ₁ Q)
    (hs : ∀ x, foldedSetIterable iter C.env x = pure x := by intro _; with_unfolding_all rfl) : XS C B outer k (.For target iter body [] pos) σ Q := fun A E s V ads Q' rm R g tE => by
  refine wpAny_For (h A E s V ads _ rm R fun it s₁ V₁ ads₁ items σ₁ le₁ pr₁ R₁ hit hl => ?_) hs
  obtain ⟨I, ow, wr, St, Mid, rfl, Wk, hst, hw⟩ := hit
  obtain ⟨Inv, h0, step, fin⟩ := hl
  have g₁ := g.later le₁ pr₁
  have t₁ := tE.later le₁ pr₁
  refine codeAny_forLoop_any (fun k s' => ∃ i σ' V' ads', V₁.Le V' ∧ Pre ads₁ ads' ∧ C.R σ' V' ads' s' ∧ St i s'.heap ∧ Inv i σ' ∧ (∀ b ∈ ow, Aside C V' ads' s'.heap b) ∧ i ≤ items.length ∧ k = items.length + 1 - i) ?_ (items.length + 1)
    ⟨0, σ₁, V₁, ads₁, View.Le.refl _, Pre.refl _, R₁, hst, h0, hw, Nat.zero_le _, rfl⟩
  rintro k' s' ⟨i, σ', V', ads', le', pr', R', hst', hI, hw', hi, rfl⟩
  cases hx : items[i]? with
  | none =>
    have : i = items.length := items_at hi hx
    subst this
    refine Wk.done s' _ _ hst' fun h₂ tk kp => ?_
    have R₂ := R'.but (s' := { s' with heap := h₂, toks := tk }) ⟨h₂, tk, rfl⟩ (fun b hb => hw' b (Wk.own b hb)) kp
    exact wpAny_execs_nil (g₁ .next _ V' ads' RF.next σ' le' pr' R₂ rfl (fin σ' hI))
  | some x =>
    refine Wk.item i x s' _ _ hx hst' fun v h₂ tk hmid kp => ?_
    have R₂ := R'.but (s' := { s' with heap := h₂, toks := tk }) ⟨h₂, tk, rfl⟩ (fun b hb => hw' b (Wk.own b hb)) kp
    have hw₂ : ∀ b ∈ ow, Aside C V' ads' h₂ b := fun b hb => (hw' b hb).mono (Wk.thereM i v h₂ hmid b hb)
    refine Wk.go i x v _ _ _ hx hmid fun h₃ hst₃ hv kp₃ => ?_
    have R₃ := R₂.but (s' := { s' with heap := h₃, toks := tk }) ⟨h₃, tk, rfl⟩ (fun b hb => hw₂ b (Wk.own b hb)) kp₃
    have hw₃ : ∀ b ∈ ow, Aside C V' ads' h₃ b := fun b hb => (hw₂ b hb).mono (Wk.there _ h₃ hst₃ b hb)
    have R₄ := R₃.aside hw₃
    have hkv : KvLe C.bs (asideBase C.bs V' h₃ ow) := fun b o e => by
      have hb : b ∉ ow := fun q => by rw [(hw₃ b q).kv] at e; cases e
      simp only [asideBase]
      rw [if_neg hb]; exact e
    refine item_goes (C := C.wb (asideBase C.bs V' h₃ ow)) (step i x σ' hx hI _ rfl rfl hkv) rm R₄ (hv.mono le') fun _ s₅ V₅ ads₅ _ σ₅ le₅ pr₅ R₅ _ h₅ => ?_
    refine h₅ A _ s₅ V₅ ads₅ _ rm R₅ (fun f s₆ V₆ ads₆ rf σ₆ le₆ pr₆ R₆ fr q => ?_) fun e σ₆ V₆ ads₆ s₆ h₆ le₆ pr₆ R₆ th => ?_
    · obtain ⟨R₇, same, hw₇⟩ := R₃.unaside hw₃ R₆
      have le₇ := le'.trans (le₅.trans le₆)
      have pr₇ := pr'.trans (pr₅.trans pr₆)
      have next : (∃ σ', Less σ₆ σ' ∧ Inv (i + 1) σ') → ∃ m, m < items.length + 1 - i ∧ ∃ i' σ' V' ads', V₁.Le V' ∧ Pre ads₁ ads' ∧ C.R σ' V' ads' s₆ ∧ St i' s₆.heap ∧ Inv i' σ' ∧ (∀ b ∈ ow, Aside C V' ads' s₆.heap b) ∧ i' ≤ items.length ∧ m = items.length + 1 - i' := fun ⟨σ₇, hl, hI'⟩ => by
        have hlt : i < items.length := (List.getElem?_eq_some_iff.mp hx).1
        refine ⟨items.length + 1 - (i + 1), by lia, i + 1, σ₇, V₆, ads₆, le₇, pr₇, R₇.less hl, ?_, hI', hw₇, hlt, rfl⟩
        exact Wk.frame _ _ _ hst₃ (fun b o e => R₇.sees b o (le₇ b o e)) same
      cases rf with
      | next => cases fr; exact next q
      | cont => cases fr; exact next q
      | brk => cases fr; exact g₁ .next s₆ V₆ ads₆ RF.next σ₆ le₇ pr₇ R₇ rfl q
      | ret l =>
        obtain ⟨u, rfl, hu⟩ := fr
        exact g₁ (.ret u) s₆ V₆ ads₆ (RF.ret l) σ₆ le₇ pr₇ R₇ ⟨u, rfl, hu⟩ q
    · obtain ⟨R₇, _, _⟩ := R₃.unaside hw₃ R₆
      exact t₁.noted U rm.fr e σ₆ V₆ ads₆ s₆ h₆ (le'.trans (le₅.trans le₆)) (pr'.trans (pr₅.trans pr₆)) R₇ th

/-- `raise K('…')` for a class of the text -/
theorem x_raise {x : Str} {Cl : Addr} {bmB bmN : List Value} {Bf Bn newId nid initId inN : String} {mg : Str → Option Value} {str : Str} {ck : Nat} {np cpos sp pos : Pos} {Q : RF → St → Prop}
    (U : Under C B outer) (hg : B.Ns mainGlobals mg) (O : OwnCls x Cl bmB newId mg B) (Fn : ExcBaseFacts Bn newId inN bmN) (hBn : bmB.contains (.type Bn) = true) (FB : ExcBaseFacts Bf nid initId bmB)
    (hx : C.env.kindOf x = some .globalImplicit) (hk : C.env.scope.kind = .function) (hgl : C.env.globals = mainGlobals) (hd : (x == ("__debug__" : Str)) = false) :
    XS C B outer (.ref Cl) (.Raise (some (.Call (.Name x np) [.Constant (.str str) ck sp] [] cpos)) none pos) σ Q := fun A E s V ads Q' rm R g tE => by
  obtain ⟨st, ff, hn⟩ := U.at R
  obtain ⟨tl, N, nm, q, bs, hdct, sn, sub, ab, col, dd, k0, k1, k2, k3, k5, mN, hC, hN, hni, T⟩ := O.obj
  refine wpAny_Raise_call_subU (C := Cl) (nm := nm) (q := q) (N := N) (bs := bs) (bm := tl) (hdct := hdct) (sn := sn) (sub := sub) (ab := ab) (col := col) (dd := dd) (k0 := k0) (k1 := k1) (k2 := k2) (k3 := k3) (k5 := k5)
    Fn hBn FB (mN := mN) (T.hasType FB.hasBase) rm.handled rfl hni ?_
  refine Calls.Name_function_global hk hx (Calls.loadGlobal_global (env := C.env) (by rw [hgl]; exact hg.keeps st) O.bound ?_) hd
  refine ⟨rfl, ?_⟩
  refine Calls.evalArgs_plain ?_
  refine wpAny_items_cons (pos := cpos) (e := .Constant (.str str) ck sp) (rest := []) (wpAny_Constant_str (wpAny_items_nil ?_))
  refine ⟨rfl, Nat.le_of_ble_eq_true rfl, st _ _ hC, hN.keeps st, T.keeps st, fun h' e hm => ?_⟩
  exact tE e σ V ads { s with toks := s.toks + 1 } h' (View.Le.refl _) (Pre.refl _) (R.tok _) (.inl ⟨_, hm⟩)

/-- a call that raises -/
def RCall (prog : Program) (w : World) (K : Frag) (d : Nat) (a : Addr) (B : Heap) (k : Value) (ps : List PV) : Prop :=
  ∀ (A : Around) (E : Value → Shared → Prop) (s : Shared) (V : View) (vs : List Value) (outer : List Env) (Q' : Value → Shared → Prop), A.frames = some outer → Room A d → Gl K V → Sees V s.heap → Reps V ps vs → B.StaysIn s.heap → s.heap.FunFrames B outer →
    (∀ e a0 h' tk, Heap.FlyingW B outer e k a0 h' → s.heap.UpToSlots h' → E (.ref e) { s with heap := h', toks := tk }) → wpAny (model prog w) A (call (.ref a) vs) Q' E s

/-- the exit of a body that raises -/
theorem thrown_leaves {A : Around} {V : View} {ads : List Addr} {s₁ : Shared} {e : Addr} {h' : Heap} {E : Value → Shared → Prop} {Q : Unit → Shared → Prop} (U : Under C B outer) (fr : C.fr A) (R : C.R σ V ads s₁) (t : Thrown C B outer k s₁ e h')
    (q : ∀ h'' a0, Heap.FlyingW B outer e k a0 h'' → s₁.heap.UpToSlots h'' → Q () { s₁ with heap := h'' }) : wpAny (model C.prog C.w) A (leaving C.env (.ref e)) Q E { s₁ with heap := h' } := by
  obtain ⟨st, ff, hn⟩ := U.at R
  unfold leaving
  refine wpAny_bind (noted_held U fr R t fun h'' a0 hh up => ?_)
  refine wpAny_landsW hh fun h₃ fl up₃ => ?_
  obtain ⟨k1, k2, ⟨_, _, k3⟩, k4⟩ := fl
  exact q h₃ a0 ⟨k1, k2, k3, k4⟩ (up.trans up₃)
end
end CR
namespace CR
open PySem PySem.W PyProof.Rows

/-- a call of a def, raw: what stands at its body's entry -/
theorem fcall_raw {prog : Program} {w : World} {K : Frag} {a : Addr} {d : Nat} {params : Arguments} {body : List Stmt} {scope : Scope} {ps : List PV} {A : Around} {s : Shared} {V : View} {vs : List Value} {Q' E : Value → Shared → Prop}
    (hfn : FnAt K a params body scope) (names : List Str)
    (hbind : ∀ nm q doc pm an cdv ct (vals : List Value), vals.length = names.length → bindArgs (fnOf nm q params body scope .none .none doc pm an cdv ct) ⟨vals, []⟩ = pure (names.zip vals))
    (hkind : ∀ n, ∀ x ∈ names, scope.names.lookup x = some .local ∨ (scope.names.lookup x = some .cell ∧ ((cellsFrom n scope.names []).lookup x).isSome = true))
    (hnd : names.Nodup) (hlen : ps.length = names.length) (rm : Room A (d + 1)) (gl : Gl K V) (se : Sees V s.heap) (rs : Reps V ps vs)
    (h : ∀ (bs : Base) (q : Str) (cd : Value) s₁, bs.lent = [] → bs.cellsOwn = true → bs.s₀ = s → bs.V₀ = V → bs.kv = s.heap.get? → (∃ nm doc pm an ct oc od osl, K.lookup a = some ⟨oc, od, .func (fnOf nm q params body scope .none .none doc pm an cd ct), osl⟩) → Rel K bs (envF scope q s.heap.objs.size a cd) ⟨names.zip (ps.map Loc.pv), []⟩ V [] s₁ → Room (A.deeper (envF scope q s.heap.objs.size a cd)) d →
      wpAny (model prog w) (A.deeper (envF scope q s.heap.objs.size a cd)) (execs body (envF scope q s.heap.objs.size a cd)) (fun f s' => Q' (match f with | .ret v => v | _ => .none) s')
        (fun e s' => wpAny (model prog w) (A.deeper (envF scope q s.heap.objs.size a cd)) (leaving (envF scope q s.heap.objs.size a cd) e) (fun _ s'' => E e s'') (fun e' s'' => E e' s'') s') s₁)
    (hk : scope.kind = .function := by with_unfolding_all rfl) (hco : scope.isCoroutine = false := by with_unfolding_all rfl) (hgen : scope.isGenerator = false := by with_unfolding_all rfl) :
    wpAny (model prog w) A (call (.ref a) vs) Q' E s := by
  obtain ⟨nm, q, doc, pm, an, cdv, ct, oc, od, osl, hK, hcd⟩ := hfn
  have G := gl s.heap se
  have hvl : vs.length = names.length := by rw [rs.length, hlen]
  refine wpAny_call (codeAny_call_cells (fd := fnOf nm q params body scope .none .none doc pm an cdv ct) (binds := names.zip vs) (by have := rm.depth; lia) (G.K _ _ hK) rfl G.nolimit (codeRec_of G.K hcd) rfl (hbind nm q doc pm an cdv ct _ hvl) rfl
    (fun x hx => hkind _ x.1 (List.of_mem_zip hx).1) (fun s₁ ic => ?_) hco hgen hk)
  have hL : (callEnvC (fnOf nm q params body scope .none .none doc pm an cdv ct) s.heap.objs.size a) = envF scope q s.heap.objs.size a cdv := rfl
  rw [hL] at ic ⊢
  have bn : ((names.zip vs).map (·.1)).Nodup := by
    rw [List.map_fst_zip (by rw [hvl]; exact Nat.le_refl _)]
    exact hnd
  let bs : Base := { s₀ := s, V₀ := V, kv := s.heap.get?, lent := [], cellsOwn := true }
  have out : ∀ b, s.heap.objs.size ≤ b → V b = none ∧ bs.kv b = none := fun b hb => ⟨se.none_of (get?_ge hb), get?_ge hb⟩
  have R : Rel K bs (envF scope q s.heap.objs.size a cdv) { ρ := names.zip (ps.map Loc.pv), O := [] } V [] s₁ := {
    same := ic.toInCall.same
    sees := se.keeps ic.toInCall.keep
    glob := gl
    keep := fun b o e => ic.toInCall.keep b o e
    vnew := fun b o e => .inl ⟨o, e⟩
    frame := by
      refine ⟨_, ic.toInCall.ns, fun x l e => ?_⟩
      obtain ⟨k, hx, hl⟩ := lookup_zip_mem _ _ _ _ e
      have hkl : k < vs.length := by
        rw [hvl]; exact (List.getElem?_eq_some_iff.mp hx).1
      obtain ⟨v, hv⟩ : ∃ v, vs[k]? = some v := ⟨_, List.getElem?_eq_getElem hkl⟩
      have hmem : (x, v) ∈ names.zip vs := by
        have : (names.zip vs)[k]? = some (x, v) := by
          rw [List.getElem?_zip_eq_some]; exact ⟨hx, hv⟩
        exact List.mem_of_getElem? this
      refine ⟨v, ?_, ?_⟩
      · simp only [List.getElem?_map, Option.map_eq_some_iff] at hl
        obtain ⟨p, h1, rfl⟩ := hl
        obtain ⟨u, h2, h3⟩ := rs.get h1
        rw [h2] at hv; cases hv
        exact h3
      · rcases hkind (s.heap.objs.size + 1) x (List.mem_of_getElem? hx) with hloc | ⟨hc, hs⟩
        · exact .inl ⟨hloc, bindL_in _ _ _ x v bn hmem hloc⟩
        · obtain ⟨c, hc'⟩ := Option.isSome_iff_exists.mp hs
          refine .inr ⟨.inl hc, c, hc', ?_⟩
          have := ic.cell x c hc'
          rwa [bindC_in _ _ _ x v bn hmem (by show scope.names.lookup x ≠ _; rw [hc]; simp)] at this
    Lnew := Nat.le_refl _
    hL := (out _ (Nat.le_refl _)).1
    kL := (out _ (Nat.le_refl _)).2
    cells := fun _ x c e => by
      have hlt : s.heap.objs.size < c := ic.above x c (mem_of_lookup e)
      exact ⟨⟨_, ic.cell x c e⟩, (out c (Nat.le_of_lt hlt)).1, (out c (Nat.le_of_lt hlt)).2, fun y ey => name_of_addr ic.apart (mem_of_lookup ey) (mem_of_lookup e)⟩
    olen := rfl
    own := fun k xs e => by simp at e
    inj := .nil
    onew := fun k l hl e => by simp at e
    lentP := Pre.refl _
    aex := fun l hl => by cases hl
    akv := fun l hl => by cases hl
    cex := fun x c e => by
      obtain ⟨o, ho, _⟩ := ic.cell x c e
      exact ⟨o, ho⟩
    adL := fun h => by cases h
    adC := fun x c e h => by cases h }
  have rm' : Room (A.deeper (envF scope q s.heap.objs.size a cdv)) d := ⟨rm.handled, by show A.depth + 1 + d < _; have := rm.depth; lia, by show A.units + 3 + 4 * d + 100 < _; have := rm.units; lia⟩
  exact h bs q cdv s₁ rfl rfl rfl rfl rfl ⟨nm, doc, pm, an, ct, oc, od, osl, hK⟩ R rm'

theorem envF_kind {scope : Scope} (hk : scope.kind = .function) {q : Str} {L a : Addr} {cd : Value} : (envF scope q L a cd).scope.kind ≠ .module := by
  show scope.kind ≠ .module
  rw [hk]; intro h; cases h

/-- a def whose body raises -/
theorem rcall_enter {prog : Program} {w : World} {K : Frag} {a : Addr} {d : Nat} {params : Arguments} {body : List Stmt} {scope : Scope} {ps : List PV} {B : Heap} {k : Value} (hfn : FnAt K a params body scope) (names : List Str)
    (hbind : ∀ nm q doc pm an cdv ct (vals : List Value), vals.length = names.length → bindArgs (fnOf nm q params body scope .none .none doc pm an cdv ct) ⟨vals, []⟩ = pure (names.zip vals))
    (hkind : ∀ n, ∀ x ∈ names, scope.names.lookup x = some .local ∨ (scope.names.lookup x = some .cell ∧ ((cellsFrom n scope.names []).lookup x).isSome = true))
    (hnd : names.Nodup) (hlen : ps.length = names.length)
    (h : ∀ (bs : Base) (L : Addr) (q : Str) (cd : Value) (fr : Around → Prop) (outer : List Env), bs.lent = [] → bs.cellsOwn = true → Under ⟨prog, w, K, bs, envF scope q L a cd, d, fr⟩ B outer →
      XB ⟨prog, w, K, bs, envF scope q L a cd, d, fr⟩ B outer k body { ρ := names.zip (ps.map Loc.pv), O := [] } fun _ _ => False)
    (hk : scope.kind = .function := by with_unfolding_all rfl) (hco : scope.isCoroutine = false := by with_unfolding_all rfl) (hgen : scope.isGenerator = false := by with_unfolding_all rfl) : RCall prog w K (d + 1) a B k ps := fun A E s V vs outer Q' hA rm gl se rs hB hF tE => by
  refine fcall_raw hfn names hbind hkind hnd hlen rm gl se rs (fun bs q cd s₁ b1 b2 b3 b4 b5 _ R rm' => ?_) hk hco hgen
  have U : Under ⟨prog, w, K, bs, envF scope q s.heap.objs.size a cd, d, fun A' => A'.frames = some (envF scope q s.heap.objs.size a cd :: outer)⟩ B outer :=
    ⟨fun b o e => by show bs.kv b = _; rw [b5]; exact hB b o e, fun x sx => hF.of_keeps fun b o e _ => ⟨o, sx b o (by show bs.kv b = _; rw [b5]; exact e), rfl⟩, rfl, envF_kind hk, fun _ e => e⟩
  refine h bs s.heap.objs.size q cd _ outer b1 b2 U (A.deeper _) _ s₁ V [] _ ⟨rm', Around.frames_deeper hA⟩ R (fun f s' V' ads' rf σ' le pr R' fr fin => fin.elim) fun e σ' V' ads' s' h' le pr R' th => ?_
  refine thrown_leaves U (A := A.deeper _) (Around.frames_deeper hA) R' th fun h'' a0 fl up => ?_
  obtain ⟨hp, tk, e₁⟩ := R'.same
  rw [b3] at e₁
  subst e₁
  exact tE e a0 h'' tk fl ((Heap.UpToSlots.of_keeps fun b o e' => R'.keep b o (by rw [b5]; exact e')).trans up)
end CR
namespace CR
open PySem PySem.W PyProof.Rows
/-- a class of the text's own that may be raised and caught -/
def OwnAt (B : Heap) (x : Str) (Cl : Addr) : Prop :=
  ∃ mg bmB bmN Bf Bn newId nid initId inN, B.Ns mainGlobals mg ∧ OwnClsQ x Cl bmB newId mg B ∧ ExcBaseFacts Bn newId inN bmN ∧ bmB.contains (.type Bn) = true ∧ ExcBaseFacts Bf nid initId bmB ∧ bmB.contains (.type "BaseException") = true

section
variable {C : Cx} {σ : St} {B : Heap} {outer : List Env} {k : Value}
theorem x_raise_own {x : Str} {Cl : Addr} {str : Str} {ck : Nat} {np cpos sp pos : Pos} {Q : RF → St → Prop} (U : Under C B outer) (O : OwnAt B x Cl)
    (hx : C.env.kindOf x = some .globalImplicit := by with_unfolding_all rfl) (hk : C.env.scope.kind = .function := by with_unfolding_all rfl) (hgl : C.env.globals = mainGlobals := by with_unfolding_all rfl) (hd : (x == ("__debug__" : Str)) = false := by with_unfolding_all rfl) :
    XB C B outer (.ref Cl) [.Raise (some (.Call (.Name x np) [.Constant (.str str) ck sp] [] cpos)) none pos] σ Q := by
  obtain ⟨mg, bmB, bmN, Bf, Bn, newId, nid, initId, inN, hg, O, Fn, hBn, FB, _⟩ := O
  exact xb_one (x_raise U hg O.own Fn hBn FB hx hk hgl hd)
def ThenX (C : Cx) (B : Heap) (outer : List Env) (k : Value) (rest : List Stmt) (Q : RF → St → Prop) : RF → St → Prop
  | .next, σ => XB C B outer k rest σ Q
  | f, σ => Q f σ
theorem xb_then {st : Stmt} {rest : List Stmt} {Q : RF → St → Prop} (h : WS C st σ (ThenX C B outer k rest Q)) : XB C B outer k (st :: rest) σ Q := xb_cons (x_of (W.mono h fun f σ₁ h => by cases f <;> exact h))
theorem xb_thenX {st : Stmt} {rest : List Stmt} {Q : RF → St → Prop} (h : XS C B outer k st σ (ThenX C B outer k rest Q)) : XB C B outer k (st :: rest) σ Q := xb_cons fun A E s V ads Q' rm R g tE => h A E s V ads Q' rm R (fun f s₁ V₁ ads₁ r σ₁ le₁ pr₁ R₁ r₁ h₁ => g f s₁ V₁ ads₁ r σ₁ le₁ pr₁ R₁ r₁ (by cases r <;> exact h₁)) tE
theorem xb_nil {Q : RF → St → Prop} (q : Q .next σ) : XB C B outer k [] σ Q := x_of (b_nil q)
theorem thenX_next {rest : List Stmt} {Q : RF → St → Prop} (h : XB C B outer k rest σ Q) : ThenX C B outer k rest Q .next σ := h

variable {target : Expr} {body : List Stmt} {Q : RF → St → Prop}
theorem xfor_list {α : Type} {f : α → PV} {xs : List α} (Inv : Nat → St → Prop) (h0 : Inv 0 σ)
    (step : ∀ i x, xs[i]? = some x → ∀ σ₂, Inv i σ₂ → ∀ bs', bs'.lent = C.bs.lent → bs'.cellsOwn = C.bs.cellsOwn → KvLe C.bs bs' → WAsg (C.wb bs') target (.pv (f x)) σ₂ fun σ₃ => XB (C.wb bs') B outer k body σ₃ (LoopQ Q (Inv (i + 1))))
    (fin : ∀ σ₂, Inv xs.length σ₂ → Q .next σ₂) : LoopX C B outer k target body ((xs.map f).map Item.one) σ Q :=
  ⟨Inv, h0, fun i x σ₂ hx hI bs' h1 h2 h3 => by
    rw [List.getElem?_map, List.getElem?_map] at hx
    cases e : xs[i]? with
    | none => rw [e] at hx; cases hx
    | some y =>
      rw [e] at hx; cases hx
      exact step i y e σ₂ hI bs' h1 h2 h3, fun σ₂ hI => fin σ₂ (by simpa using hI)⟩
theorem xfor_enum {α : Type} {f : α → PV} {xs : List α} {es : List Expr} {kk : Nat} {p : Pos} (Inv : Nat → St → Prop) (h0 : Inv 0 σ)
    (step : ∀ i x, xs[i]? = some x → ∀ σ₂, Inv i σ₂ → ∀ bs', bs'.lent = C.bs.lent → bs'.cellsOwn = C.bs.cellsOwn → KvLe C.bs bs' → WAsgs (C.wb bs') es [pn i, .pv (f x)] σ₂ fun σ₃ => XB (C.wb bs') B outer k body σ₃ (LoopQ Q (Inv (i + 1))))
    (fin : ∀ σ₂, Inv xs.length σ₂ → Q .next σ₂) (hn : (assignEach es C.env).length = 2 := by with_unfolding_all rfl) (hf : (assignEach es C.env).findIdx? (·.1) = none := by with_unfolding_all rfl) : LoopX C B outer k (.Tuple es kk p) body ((xs.map f).mapIdx fun i x => Item.many [.int i, x]) σ Q :=
  ⟨Inv, h0, fun i x σ₂ hx hI bs' h1 h2 h3 => by
    rw [List.getElem?_mapIdx, List.getElem?_map] at hx
    cases e : xs[i]? with
    | none => rw [e] at hx; cases hx
    | some y =>
      rw [e] at hx; cases hx
      exact ⟨es, kk, p, rfl, by rw [show (assignEach es (C.wb bs').env).length = 2 from hn]; rfl, hf, step i y e σ₂ hI bs' h1 h2 h3⟩, fun σ₂ hI => fin σ₂ (by simpa using hI)⟩
end

section
variable {prog : Program} {w : World} {K : Frag} {ad : Nat → Addr} {B : Heap} {Cl : Addr}
theorem remainder_raise (P : Prg K ad) {k : Nat} (hk : 1 ≤ k ∧ k ≤ 20) (O : OwnAt B (Nm "DivisionByZero") Cl) :
    RCall prog w K 1 (ad 15) B (.ref Cl) [num k 1, .list ([[0]].map (lev k)), .int k, .ref (ad 28)] := by
  refine rcall_enter (P.fn 15 (by decide)) [Nm "a", Nm "levels", Nm "w", Nm "divrem"] (by (intro nm q doc pm an cdv ct vals h; obtain ⟨a, b, c, d, e⟩ := len4 h; subst e; with_unfolding_all rfl)) (kinds_ok fun _ => rfl) (by decide) rfl ?_
  intro bs L q cd fr outer _ hc U
  show XB _ B outer _ _ ⟨[(Nm "a", .pv (num k 1)), (Nm "levels", .pv (.list ([[0]].map (lev k)))), (Nm "w", pn k), (Nm "divrem", .pv (.ref (ad 28)))], []⟩ _
  have hth : [[0]][0]? = some [0] := rfl
  refine xb_then ?_
  repeat (with_reducible first | (refine x_name ?_; refine ⟨_, by with_unfolding_all rfl, ?_⟩) | refine e_nat ?_ | refine l_cons ?_ | refine l_nil ?_ | refine ⟨_, rfl, ?_⟩ | refine t_cmp ?_ | refine e_sub ?_ | refine e_call ?_ | (refine x_ixp ?_; refine ⟨_, _, by with_unfolding_all rfl, by with_unfolding_all rfl, by (first | assumption | (with_unfolding_all exact Nat.le_of_ble_eq_true rfl) | (apply Nat.le_trans; assumption; with_unfolding_all exact Nat.le_of_ble_eq_true rfl) | (apply Nat.lt_of_le_of_lt; assumption; with_unfolding_all exact Nat.le_of_ble_eq_true rfl) | ((try simp only [List.length_map, List.length_append, List.length_cons, List.length_nil, List.length_set, List.length_replicate, List.length_take, List.length_drop, List.length_reverse]); first | assumption | lia) | decide), ?_⟩) | refine ⟨_, _, _, by with_unfolding_all rfl, by (first | assumption | (with_unfolding_all exact Nat.le_of_ble_eq_true rfl) | (apply Nat.le_trans; assumption; with_unfolding_all exact Nat.le_of_ble_eq_true rfl) | (apply Nat.lt_of_le_of_lt; assumption; with_unfolding_all exact Nat.le_of_ble_eq_true rfl) | ((try simp only [List.length_map, List.length_append, List.length_cons, List.length_nil, List.length_set, List.length_replicate, List.length_take, List.length_drop, List.length_reverse]); first | assumption | lia) | decide), ?_⟩ | refine s_if ?_ | refine b_nil ?_ | (refine ite_f ?_ ?_; (first | assumption | (with_unfolding_all exact Nat.le_of_ble_eq_true rfl) | (apply Nat.le_trans; assumption; with_unfolding_all exact Nat.le_of_ble_eq_true rfl) | (apply Nat.lt_of_le_of_lt; assumption; with_unfolding_all exact Nat.le_of_ble_eq_true rfl) | ((try simp only [List.length_map, List.length_append, List.length_cons, List.length_nil, List.length_set, List.length_replicate, List.length_take, List.length_drop, List.length_reverse]); first | assumption | lia) | decide)) | refine k_bi ?_ | refine x_len ?_ | refine eq_nn ?_ | refine b_len (by assumption) ?_)
  refine thenX_next (xb_then ?_)
  repeat (with_reducible first | (refine x_name ?_; refine ⟨_, by with_unfolding_all rfl, ?_⟩) | refine l_cons ?_ | refine l_nil ?_ | refine x_assign ?_ | refine e_list ?_ | refine sto_c (by assumption) ?_ | refine ⟨[_], by with_unfolding_all rfl, by (first | assumption | (with_unfolding_all exact Nat.le_of_ble_eq_true rfl) | (apply Nat.le_trans; assumption; with_unfolding_all exact Nat.le_of_ble_eq_true rfl) | (apply Nat.lt_of_le_of_lt; assumption; with_unfolding_all exact Nat.le_of_ble_eq_true rfl) | ((try simp only [List.length_map, List.length_append, List.length_cons, List.length_nil, List.length_set, List.length_replicate, List.length_take, List.length_drop, List.length_reverse]); first | assumption | lia) | decide), ?_⟩)
  refine .inl ?_
  skip
  refine thenX_next (xb_thenX ?_)
  refine x_for U ?_
  repeat (with_reducible first | (refine x_name ?_; refine ⟨_, by with_unfolding_all rfl, ?_⟩) | refine ⟨_, rfl, ?_⟩ | refine e_slice ?_ | refine ⟨_, _, _, by with_unfolding_all rfl, by (first | assumption | (with_unfolding_all exact Nat.le_of_ble_eq_true rfl) | (apply Nat.le_trans; assumption; with_unfolding_all exact Nat.le_of_ble_eq_true rfl) | (apply Nat.lt_of_le_of_lt; assumption; with_unfolding_all exact Nat.le_of_ble_eq_true rfl) | ((try simp only [List.length_map, List.length_append, List.length_cons, List.length_nil, List.length_set, List.length_replicate, List.length_take, List.length_drop, List.length_reverse]); first | assumption | lia) | decide), ?_⟩ | refine it_list ?_ | refine x_rev ?_ | refine o_none ?_ | refine o_some ?_ | refine e_neg1 ?_)
  refine .inl ?_
  repeat (with_reducible first | refine ⟨_, rfl, ?_⟩)
  let I1 : Nat → St → Prop := fun i σ => i = 0 ∧ σ = ⟨[(Nm "a", .pv (num k 1)), (Nm "levels", .pv (.list ([[0]].map (lev k)))), (Nm "w", pn k), (Nm "divrem", .pv (.ref (ad 28))), (Nm "rests", .pv (lev k [1]))], []⟩
  refine xfor_list I1 ⟨rfl, rfl⟩ ?_ (fun _ h => absurd h.1 (by decide))
  rintro i l hi _ ⟨rfl, rfl⟩ bs' _ hc' hkv
  have hcc : bs'.cellsOwn = true := hc'.trans hc
  have hl : l = [0] := by simpa using hi.symm
  subst hl
  repeat (with_reducible first | refine sto_c (by assumption) ?_ | refine xa_name ?_)
  refine xb_thenX (x_if ?_)
  repeat (with_reducible first | refine l_cons ?_ | refine e_call ?_ | refine k_bi ?_ | refine t_call ?_ | refine b_any (by assumption) ?_)
  refine e_comp ?_
  repeat (with_reducible first | (refine x_name ?_; refine ⟨_, by with_unfolding_all rfl, ?_⟩) | refine ⟨_, rfl, ?_⟩ | refine it_list ?_)
  refine comp_inv (g := fun n => .bool (decide ((limbs (2 ^ k) n).length = 0))) [] (by decide) ?_ ?_
  · intro C0 bs'' h1 h2 j n hn
    have ln := limbs_len2 (n := n) (k := 1) hk.1 (by have := List.mem_of_getElem? hn; simp at this; lia)
    repeat (with_reducible first | (refine x_name ?_; refine ⟨_, by with_unfolding_all rfl, ?_⟩) | refine e_nat ?_ | refine l_cons ?_ | refine l_nil ?_ | refine ⟨rfl, ?_⟩ | refine sto_l ?_ | refine e_call ?_ | refine ⟨_, _, _, by with_unfolding_all rfl, by (first | assumption | (with_unfolding_all exact Nat.le_of_ble_eq_true rfl) | (apply Nat.le_trans; assumption; with_unfolding_all exact Nat.le_of_ble_eq_true rfl) | (apply Nat.lt_of_le_of_lt; assumption; with_unfolding_all exact Nat.le_of_ble_eq_true rfl) | ((try simp only [List.length_map, List.length_append, List.length_cons, List.length_nil, List.length_set, List.length_replicate, List.length_take, List.length_drop, List.length_reverse]); first | assumption | lia) | decide), ?_⟩ | refine k_bi ?_ | refine x_len ?_ | refine eq_nn ?_ | refine e_cmp ?_ | refine xa_name ?_ | refine b_len (by assumption) ?_)
    exact less_of
  · have e : [0].map (fun n => PV.bool (decide ((limbs (2 ^ k) n).length = 0))) = ([0].map fun n => decide ((limbs (2 ^ k) n).length = 0)).map PV.bool := by rw [List.map_map]; rfl
    have hany : ([0].map fun n => decide ((limbs (2 ^ k) n).length = 0)).any id = true := by simp [limbs_zero]
    rw [e]
    refine .inl ?_
    refine l_nil ?_
    refine f_any ?_
    rw [hany]
    repeat (with_reducible first | refine ⟨_, rfl, ?_⟩ | refine ite_tt ?_)
    exact x_raise_own (U.wb hkv) O
theorem pairwise_raise (P : Prg K ad) {k : Nat} (hk : 1 ≤ k ∧ k ≤ 20) (O : OwnAt B (Nm "NoInverse") Cl) (ns : List Nat) (hl : ns.length ≤ 100) (hs : ∀ n ∈ ns, 0 < n ∧ n < 2 ^ 500) (hbad : ∃ i j a b : Nat, j < i ∧ ns[i]? = some a ∧ ns[j]? = some b ∧ Nat.gcd a b ≠ 1) :
    RCall prog w K 4 (ad 20) B (.ref Cl) [lev k ns, .int k, .ref (ad 36)] := by
  refine rcall_enter (P.fn 20 (by decide)) [Nm "moduli", Nm "w", Nm "divisor"] (by (intro nm q doc pm an cdv ct vals h; obtain ⟨a, b, c, e⟩ := len3 h; subst e; with_unfolding_all rfl)) (kinds_ok fun _ => rfl) (by decide) rfl ?_
  intro bs L q cd fr outer _ hc U
  show XB _ B outer _ _ ⟨[(Nm "moduli", .pv (lev k ns)), (Nm "w", pn k), (Nm "divisor", .pv (.ref (ad 36)))], []⟩ _
  refine xb_one ?_
  refine x_for U ?_
  repeat (with_reducible first | (refine x_name ?_; refine ⟨_, by with_unfolding_all rfl, ?_⟩) | refine ⟨rfl, ?_⟩ | refine ⟨_, rfl, ?_⟩ | refine it_enum ?_ | refine b_enumerate (by assumption) ?_)
  let I2 : Nat → St → Prop := fun i σ => σ = ⟨[(Nm "moduli", .pv (lev k ns)), (Nm "w", pn k), (Nm "divisor", .pv (.ref (ad 36)))], []⟩ ∧ ∀ i' j a b : Nat, i' < i → j < i' → ns[i']? = some a → ns[j]? = some b → Nat.gcd a b = 1
  refine xfor_enum I2 ⟨rfl, fun i' _ _ _ h => absurd h (Nat.not_lt_zero _)⟩ ?_ ?_
  · rintro i x hi _ ⟨rfl, hI⟩ bs' _ hc' hkv
    have hcc : bs'.cellsOwn = true := hc'.trans hc
    have hil : i < ns.length := (List.getElem?_eq_some_iff.mp hi).1
    have hx := hs x (List.mem_of_getElem? hi)
    repeat (with_reducible first | refine sto_l ?_ | refine xa_name ?_ | refine as_cons ?_ | refine as_nil ?_)
    refine xb_one ?_
    refine x_for (U.wb hkv) ?_
    repeat (with_reducible first | (refine x_name ?_; refine ⟨_, by with_unfolding_all rfl, ?_⟩) | refine ⟨_, rfl, ?_⟩ | refine e_slice ?_ | refine ⟨_, _, _, by with_unfolding_all rfl, by (first | assumption | (with_unfolding_all exact Nat.le_of_ble_eq_true rfl) | (apply Nat.le_trans; assumption; with_unfolding_all exact Nat.le_of_ble_eq_true rfl) | (apply Nat.lt_of_le_of_lt; assumption; with_unfolding_all exact Nat.le_of_ble_eq_true rfl) | ((try simp only [List.length_map, List.length_append, List.length_cons, List.length_nil, List.length_set, List.length_replicate, List.length_take, List.length_drop, List.length_reverse]); first | assumption | lia) | decide), ?_⟩ | refine it_list ?_ | refine x_upto ?_ | refine o_none ?_ | refine o_some ?_)
    refine .inl ?_
    repeat (with_reducible first | refine ⟨_, rfl, ?_⟩)
    let I3 : Nat → St → Prop := fun j σ => σ = ⟨[(Nm "moduli", .pv (lev k ns)), (Nm "w", pn k), (Nm "divisor", .pv (.ref (ad 36))), (Nm "at", pn i), (Nm "one", .pv (num k x))], []⟩ ∧ ∀ j' b : Nat, j' < j → (ns.take i)[j']? = some b → Nat.gcd x b = 1
    refine xfor_list I3 ⟨rfl, fun j' _ h => absurd h (Nat.not_lt_zero _)⟩ ?_ ?_
    · rintro j y hj _ ⟨rfl, hJ⟩ bs'' _ hc'' hkv'
      have hcc' : bs''.cellsOwn = true := hc''.trans hcc
      have hy := hs y (List.mem_of_mem_take (List.mem_of_getElem? hj))
      have hg0 : 0 < Nat.gcd x y := Nat.gcd_pos_of_pos_left _ hx.1
      have hgx : Nat.gcd x y ≤ x := Nat.gcd_le_left _ hx.1
      have lx := limbs_len2 hk.1 hx.2
      have ly := limbs_len2 hk.1 hy.2
      have lg := limbs_len2 hk.1 (Nat.lt_of_le_of_lt hgx hx.2)
      have lone := limbs_len2 (k := 1) (n := 1) hk.1 (by decide)
      repeat (with_reducible first | refine sto_l ?_ | refine xa_name ?_)
      refine xb_one ?_
      refine x_if ?_
      repeat (with_reducible first | (refine x_name ?_; refine ⟨_, by with_unfolding_all rfl, ?_⟩) | refine l_cons ?_ | refine l_nil ?_ | refine t_cmp ?_ | refine e_call ?_ | refine k_ref (Prg.keep (by assumption) (by decide)) ?_ | (refine e_glob (g_compare (by assumption)) ?_))
      refine call_n (law_divisor_ok P (m := x) (n := y) hk hx.2 hy.2) (.inl ?_)
      repeat (with_reducible first | refine e_nat ?_ | refine l_cons ?_ | refine l_nil ?_ | refine e_list ?_ | refine ⟨[_], by with_unfolding_all rfl, by (first | assumption | (with_unfolding_all exact Nat.le_of_ble_eq_true rfl) | (apply Nat.le_trans; assumption; with_unfolding_all exact Nat.le_of_ble_eq_true rfl) | (apply Nat.lt_of_le_of_lt; assumption; with_unfolding_all exact Nat.le_of_ble_eq_true rfl) | ((try simp only [List.length_map, List.length_append, List.length_cons, List.length_nil, List.length_set, List.length_replicate, List.length_take, List.length_drop, List.length_reverse]); first | assumption | lia) | decide), ?_⟩)
      refine .inl ?_
      repeat (with_reducible first | refine l_nil ?_)
      refine call_v (compare_ok P (m := Nat.gcd x y) (n := 1) (two_le_pow hk.1) (by lia) (by lia)) ?_ (hrs := by rw [num_one hk.1]; rfl)
      repeat (with_reducible first | refine e_nat ?_)
      by_cases h1 : Nat.gcd x y = 1
      · have ec : cmp (Nat.gcd x y) 1 = ((0 : Nat) : Int) := by rw [h1]; rfl
        rw [ec]
        repeat (with_reducible first | refine ⟨_, rfl, ?_⟩ | (refine ite_f ?_ ?_; (first | assumption | (with_unfolding_all exact Nat.le_of_ble_eq_true rfl) | (apply Nat.le_trans; assumption; with_unfolding_all exact Nat.le_of_ble_eq_true rfl) | (apply Nat.lt_of_le_of_lt; assumption; with_unfolding_all exact Nat.le_of_ble_eq_true rfl) | ((try simp only [List.length_map, List.length_append, List.length_cons, List.length_nil, List.length_set, List.length_replicate, List.length_take, List.length_drop, List.length_reverse]); first | assumption | lia) | decide)) | refine ne_nn ?_)
        refine xb_nil (loop_next (next_of ⟨rfl, fun j' b hj' hb => ?_⟩))
        rcases Nat.lt_succ_iff_lt_or_eq.mp hj' with h | rfl
        · exact hJ j' b h hb
        · rw [hj] at hb; cases hb; exact h1
      · have ec : cmp (Nat.gcd x y) 1 = ((1 : Nat) : Int) := by rw [cmp, if_neg (by lia), if_pos (by lia)]; rfl
        rw [ec]
        repeat (with_reducible first | refine ⟨_, rfl, ?_⟩ | (refine ite_t ?_ ?_; (first | assumption | (with_unfolding_all exact Nat.le_of_ble_eq_true rfl) | (apply Nat.le_trans; assumption; with_unfolding_all exact Nat.le_of_ble_eq_true rfl) | (apply Nat.lt_of_le_of_lt; assumption; with_unfolding_all exact Nat.le_of_ble_eq_true rfl) | ((try simp only [List.length_map, List.length_append, List.length_cons, List.length_nil, List.length_set, List.length_replicate, List.length_take, List.length_drop, List.length_reverse]); first | assumption | lia) | decide)) | refine ne_nn ?_)
        exact x_raise_own ((U.wb hkv).wb hkv') O
    · rintro _ ⟨rfl, hJ⟩
      refine loop_next (next_of ⟨rfl, fun i' j a b hi' hj ha hb => ?_⟩)
      rcases Nat.lt_succ_iff_lt_or_eq.mp hi' with h | rfl
      · exact hI i' j a b h hj ha hb
      · rw [hi] at ha; cases ha
        refine hJ j b ?_ ?_
        · rw [List.length_take]
          have := (List.getElem?_eq_some_iff.mp hb).1
          lia
        · rw [List.getElem?_take, if_pos hj]; exact hb
  · rintro _ ⟨rfl, hI⟩
    obtain ⟨i, j, a, b, h1, h2, h3, h4⟩ := hbad
    exact absurd (hI i j a b (List.getElem?_eq_some_iff.mp h2).1 h1 h2 h3) h4
end
end CR
namespace CR
open PySem PySem.W PyProof.Rows

section
variable {prog : Program} {w : World} {K : Frag} {ad : Nat → Addr} {B : Heap} {Cl fa : Addr} {x : Str} {A : Around} {E : Value → Shared → Prop} {s : Shared} {V : View} {d : Nat} {outer : List Env} {Q' : Value → Shared → Prop}

/-- a call without arguments that raises, whatever stands around -/
def Raises (prog : Program) (w : World) (d : Nat) (B : Heap) (outer : List Env) (k : Value) (s : Shared) (t : Sem Value) : Prop :=
  ∀ A E s' env (Q' : Value → Shared → Prop), A.frames = some (env :: outer) → Room A d → (∃ h t, s' = { s with heap := h, toks := t }) → (∀ b o, s.heap.get? b = some o → s'.heap.get? b = some o) → s'.heap.FunFrames B (env :: outer) →
    (∀ e a0 h' tk, Heap.FlyingW B (env :: outer) e k a0 h' → s'.heap.UpToSlots h' → E (.ref e) { s' with heap := h', toks := tk }) → wpAny (model prog w) A t Q' E s'

theorem law_refused_raw (P : Prg K ad) (hA : A.frames = some outer) (rm : Room A (d + 1)) (gl : Gl K V) (se : Sees V s.heap) (hB : B.StaysIn s.heap) (hF : s.heap.FunFrames B outer) (O : OwnAt B x Cl)
    {o : Obj} {fd : FuncData} (ho : s.heap.get? fa = some o) (hd : o.data = .func fd) (work : Raises prog w d B outer (.ref Cl) s (call (.ref fa) []))
    (post : ∀ h' tk, B.StaysIn h' → h'.FunFrames B outer → s.heap.UpToSlots h' → Q' (.bool true) { s with heap := h', toks := tk }) :
    wpAny (model prog w) A (call (.ref (ad 37)) [.ref fa, .ref Cl]) Q' E s := by
  refine fcall_raw (ps := [.ref fa, .ref Cl]) (P.fn 37 (by decide)) [Nm "work", Nm "kind"] (by intro nm q doc pm an cdv ct vals h; obtain ⟨a, b, e⟩ := len2 h; subst e; with_unfolding_all rfl) (kinds_ok fun _ => rfl) (by decide) rfl rm gl se
    (.cons (by simp only [Rep]) (.cons (by simp only [Rep]) .nil)) (fun bs q cd s₁ b1 b2 b3 b4 b5 _ R rm' => ?_)
  have kp : ∀ b o, s.heap.get? b = some o → s₁.heap.get? b = some o := fun b o e => R.keep b o (by rw [b5]; exact e)
  obtain ⟨m, hN, hf⟩ := R.frame
  obtain ⟨v1, r1, at1⟩ := hf (Nm "work") (.pv (.ref fa)) rfl
  obtain ⟨v2, r2, at2⟩ := hf (Nm "kind") (.pv (.ref Cl)) rfl
  simp only [LocRep, Rep] at r1 r2
  subst r1 r2
  have hn : B.get? s.heap.objs.size = none := by
    cases e : B.get? s.heap.objs.size with
    | none => rfl
    | some o => exact absurd (Heap.lt_size (hB _ _ e)) (Nat.lt_irrefl _)
  have hF₁ : s₁.heap.FunFrames B (envF (scopeOf 37) q s.heap.objs.size (ad 37) cd :: outer) := Heap.FunFrames.cons (envF_kind rfl) rfl hN hn (hF.of_keeps fun b o e _ => ⟨o, kp b o e, rfl⟩)
  have hA' : (A.deeper (envF (scopeOf 37) q s.heap.objs.size (ad 37) cd)).frames = some (envF (scopeOf 37) q s.heap.objs.size (ad 37) cd :: outer) := Around.frames_deeper hA
  have hs₁ : ∃ h t, s₁ = { s with heap := h, toks := t } := by rw [← b3]; exact R.same
  refine wpAny_execs_cons (wpAny_Try_except (wpAny_execs_cons (wpAny_Expr (Call_Name rfl (wpAny_Name (loadName_At rfl hN at1 rfl (callWith_meth0 hd (kp _ _ ho) ?_)) rfl)) rfl rfl)))
  refine work _ _ s₁ _ _ hA' rm' hs₁ kp hF₁ fun e a0 h' tk fl up => ?_
  refine wpAny_looks_onW hA' rfl fl fun h₂ held up₂ => ?_
  refine wpAny_landsW held fun h₃ fl₃ up₃ => ?_
  have up' := (up.trans up₂).trans up₃
  obtain ⟨mg, bmB, bmN, Bf, Bn, newId, nid, initId, inN, hg, OQ, Fn, hBn, FB, hbase⟩ := O
  have hN₃ : h₃.Ns s.heap.objs.size m := up'.ns hN
  have at3 : m (Nm "kind") = some (.ref Cl) := by
    rcases at2 with ⟨_, h⟩ | ⟨h | h, _⟩
    · exact h
    · have h' : some NameKind.local = some NameKind.cell := h
      cases h'
    · have h' : some NameKind.local = some NameKind.free := h
      cases h'
  obtain ⟨h₁, t₁, rfl⟩ := hs₁
  refine handleBy_own hbase (wpAny_Name (loadName_At rfl hN₃ (.inl ⟨rfl, at3⟩) rfl ⟨rfl, OQ.keeps fl₃.1, fl₃.there, ?_⟩) rfl)
  refine lands_againW fl₃ fun h₄ fl₄ up₄ => ?_
  refine wpAny_execs_cons (wpAny_Return_some (wpAny_Constant_bool ?_))
  obtain ⟨k1, k2, ⟨_, _, k3⟩, k4⟩ := fl₄
  exact post h₄ tk k1 k3 ((Heap.UpToSlots.of_keeps kp).trans (up'.trans up₄))
end
end CR
namespace CR
open PySem PySem.W PyProof.Rows

section
variable {C : Cx} {σ : St} {B : Heap} {outer : List Env} {k : Value}
/-- a call that raises, in an expression -/
theorem x_call {f : Str} {np pos : Pos} {a : Addr} {e : Expr} {args : List Expr} {d : Nat} {ps : List PV} {Q : Loc → St → Prop} (U : Under C B outer) (hf : nsIn C.K mainGlobals f = some (some (.ref a))) (hkp : keepIn C.K (.ref a) = true) (RC : RCall C.prog C.w C.K d a B k ps) (hd : d ≤ C.d)
    (h : WL C (e :: args) pos σ fun rs _ => rs = ps.map Loc.pv)
    (hk : C.env.scope.kind = .function := by with_unfolding_all rfl) (hx : C.env.kindOf f = some .globalImplicit := by with_unfolding_all rfl) (hgl : C.env.globals = mainGlobals := by with_unfolding_all rfl) (hdb : (f == ("__debug__" : Str)) = false := by with_unfolding_all rfl)
    (he : starEach (e :: args) C.env = (false, eval e C.env) :: starEach args C.env := by with_unfolding_all rfl) (hplain : (backTo pos (starEach args C.env)).any (·.1) = false := by with_unfolding_all rfl) :
    WX C B outer k LocRep (eval (.Call (.Name f np) (e :: args) [] pos) C.env) σ Q := fun A E s V ads Q' rm R g tE => by
  refine Call_Name rfl ?_
  obtain ⟨mg, hg⟩ := R.glh.g
  refine Calls.Name_function_global hk hx (Calls.loadGlobal_global (env := C.env) (by rw [hgl]; exact hg) (mg_of R.glh.K hg hf) ?_) hdb
  refine callWith_K (K := C.K) (h₀ := s.heap) (first := []) R.glh.K hkp (h A E s V ads _ rm R fun vs s₂ V₂ ads₂ rs σ₂ le₂ pr₂ R₂ r₂ h₂ => ⟨R₂.glh.K, ?_⟩) he hplain
  subst h₂
  obtain ⟨st, ff, _⟩ := U.at R₂
  rw [List.nil_append]
  exact RC A E s₂ V₂ vs (C.env :: outer) Q' (U.fr A rm.fr) (rm.toRoom.less hd) R₂.glob R₂.sees (locs_pv ps vs r₂) st ff fun e' a0 h' tk fl up =>
    tE e' σ₂ V₂ ads₂ { s₂ with toks := tk } h' le₂ pr₂ (R₂.tok tk) (.inr (.inr ⟨a0, fl, up⟩))

/-- the words of a lambda's body -/
abbrev envL (scope : Scope) (qual : Str) (L f : Addr) (cd : Value) (clos : List (Str × Addr)) : Env := { scope := scope, locals := L, globals := mainGlobals, cells := clos, qual := qual ++ ".<locals>.", func := some f, code := cd, frame := some L, builtins := builtinsNs }
end

section
variable {prog : Program} {w : World} {K : Frag} {d : Nat} {B : Heap} {outer : List Env} {k : Value} {s : Shared} {V : View} {fa c' : Addr} {name qual : Str} {params : Arguments} {body : Expr} {scope : Scope} {clos : List (Str × Addr)} {pm ctv : Value} {ρ : List (Str × Loc)}
theorem lam_raises (gl : Gl K V) (se : Sees V s.heap) (hB : B.StaysIn s.heap) (ho : s.heap.get? fa = some (kla_obj name qual params body scope clos pm c' ctv)) (hcd : s.heap.CodeRec (.ref c') qual)
    (hbind : bindArgs (kla_fn name qual params body scope clos pm (.ref c') ctv) ⟨[], []⟩ = pure [])
    (hρ : ∀ x l, ρ.lookup x = some l → ∃ v, LocRep V [] l v ∧ scope.names.lookup x = some .free ∧ ∃ c, clos.lookup x = some c ∧ s.heap.IsCell c (some v))
    (hclos : ∀ x c, clos.lookup x = some c → ∃ o, s.heap.get? c = some o) (hcell : ∀ x ∈ scope.names, x.2 ≠ .cell)
    (h : ∀ bs L fr out, bs.cellsOwn = false → Under ⟨prog, w, K, bs, envL scope qual L fa (.ref c') clos, d, fr⟩ B out → WX ⟨prog, w, K, bs, envL scope qual L fa (.ref c') clos, d, fr⟩ B out k LocRep (eval body (envL scope qual L fa (.ref c') clos)) ⟨ρ, []⟩ fun _ _ => False)
    (hk : scope.kind = .function := by with_unfolding_all rfl) (hco : scope.isCoroutine = false := by with_unfolding_all rfl) (hgen : scope.isGenerator = false := by with_unfolding_all rfl) :
    Raises prog w (d + 1) B outer k s (call (.ref fa) []) := fun A E s' env Q' hA rm same kp hF tE => by
  have se' := se.keeps kp
  have G := gl _ se'
  have hB' : B.StaysIn s'.heap := fun b o e => kp b o (hB b o e)
  obtain ⟨c₂, oc, vs, t, e2, hoc, hdc, hv⟩ := hcd
  refine wpAny_call (kla_callFunE (by have := rm.depth; lia) (kp _ _ ho) rfl hco hgen rfl ⟨c₂, oc, vs, t, e2, kp _ _ hoc, hdc, hv⟩ ?_)
  rw [hbind]
  refine wpAny_pure (wpAny_newFunctionEnv hcell (fun x hx => by cases hx) (fun h₁ hns hsb => ⟨G.nolimit.fresh _ hsb, ?_⟩) hk)
  show codeAny _ _ (.expr body (envL scope qual s'.heap.objs.size fa (.ref c') clos)) _ _
  have hk₁ : ∀ b o, s'.heap.get? b = some o → h₁.get? b = some o := fun b o e => hsb.extBut b o (Nat.ne_of_lt (Heap.lt_size e)) (Heap.get?_push_of_some _ e)
  let bs : Base := { s₀ := s', V₀ := V, kv := s'.heap.get?, lent := [], cellsOwn := false }
  have R : Rel K bs (envL scope qual s'.heap.objs.size fa (.ref c') clos) ⟨ρ, []⟩ V [] { s' with heap := h₁, toks := s'.toks + 0 } := {
    same := ⟨h₁, _, rfl⟩
    sees := se'.keeps hk₁
    glob := gl
    keep := hk₁
    vnew := fun b o e => .inl ⟨o, e⟩
    frame := by
      refine ⟨_, hns, fun x l e => ?_⟩
      obtain ⟨v, r, hfr, c, hc, ic⟩ := hρ x l e
      exact ⟨v, r, .inr ⟨.inr hfr, c, hc, (ic.keeps kp).keeps hk₁⟩⟩
    Lnew := Nat.le_refl _
    hL := se'.none_of (get?_ge (Nat.le_refl _))
    kL := get?_ge (Nat.le_refl _)
    cells := fun hc => by cases hc
    olen := rfl
    own := fun k xs e => by simp at e
    inj := .nil
    onew := fun k l hl e => by simp at e
    lentP := Pre.refl _
    aex := fun l hl => by cases hl
    akv := fun l hl => by cases hl
    cex := fun x c e => (hclos x c e).imp fun o h => hk₁ _ _ (kp _ _ h)
    adL := fun h => by cases h
    adC := fun x c e h => by cases h }
  have hkm : scope.kind ≠ .module := by rw [hk]; intro h; cases h
  have U : Under ⟨prog, w, K, bs, envL scope qual s'.heap.objs.size fa (.ref c') clos, d, fun A' => A'.frames = some (envL scope qual s'.heap.objs.size fa (.ref c') clos :: env :: outer)⟩ B (env :: outer) :=
    ⟨fun b o e => hB' b o e, fun x sx => hF.of_keeps fun b o e _ => ⟨o, sx b o e, rfl⟩, rfl, hkm, fun _ e => e⟩
  have rm' : Room (A.deeper (envL scope qual s'.heap.objs.size fa (.ref c') clos)) d := ⟨rm.handled, by show A.depth + 1 + d < _; have := rm.depth; lia, by show A.units + 3 + 4 * d + 100 < _; have := rm.units; lia⟩
  refine kla_codeExpr ?_
  refine h bs s'.heap.objs.size _ (env :: outer) rfl U (A.deeper _) _ _ V [] _ ⟨rm', Around.frames_deeper hA⟩ R (fun v s₂ V' ads' r σ' le pr R' fr fin => fin.elim) fun e σ₂ V₂ ads₂ s₂ h' le pr R₂ th => ?_
  refine thrown_leaves U (A := A.deeper _) (Around.frames_deeper hA) R₂ th fun h'' a0 fl up => ?_
  obtain ⟨hp, tk, e₁⟩ := R₂.same
  have e₁' : s₂ = { s' with heap := hp, toks := tk } := e₁
  subst e₁'
  exact tE e a0 h'' tk fl ((Heap.UpToSlots.of_keeps fun b o e' => R₂.keep b o e').trans up)
end
end CR
namespace CR
open PySem PySem.W PyProof.Rows

/-- all that is no record stands -/
def PlainKeeps (h h' : Heap) : Prop := ∀ b o, h.get? b = some o → (∀ vs, o.data ≠ .fields vs) → h'.get? b = some o
theorem PlainKeeps.ns {h h' : Heap} {a : Addr} {m : Str → Option Value} (k : PlainKeeps h h') (x : h.Ns a m) : h'.Ns a m := by
  obtain ⟨o, es, ep, ho, hd, r⟩ := x
  exact ⟨o, es, ep, k _ _ ho (fun vs q => by rw [hd] at q; cases q), hd, r⟩
theorem PlainKeeps.tail {h h' : Heap} {bmB tl : List Value} (k : PlainKeeps h h') (T : OwnTailQ h bmB tl) : OwnTailQ h' bmB tl := by
  induction T with
  | base => exact .base
  | own hA hN hq _ ih => exact .own (k _ _ hA fun vs q => by cases q) (k.ns hN) hq ih
theorem PlainKeeps.own {h h' : Heap} {x : Str} {Cl : Addr} (k : PlainKeeps h h') (O : OwnAt h x Cl) : OwnAt h' x Cl := by
  obtain ⟨mg, bmB, bmN, Bf, Bn, newId, nid, initId, inN, hg, OQ, r⟩ := O
  obtain ⟨bm, N, nm, q, bs, hdct, sn, sub, ab, col, dd, k0, k1, k2, k3, k5, mN, hC, hN, hq, T⟩ := OQ.obj
  exact ⟨mg, bmB, bmN, Bf, Bn, newId, nid, initId, inN, k.ns hg, ⟨OQ.bound, bm, N, nm, q, bs, hdct, sn, sub, ab, col, dd, k0, k1, k2, k3, k5, mN, k _ _ hC (fun vs q => by cases q), k.ns hN, hq, k.tail T⟩, r⟩

section
variable {C : Cx} {σ : St}
/-- the frame alone has changed, and that in its slots -/
theorem Rel.slots {V : View} {ads : List Addr} {s s' : Shared} (R : C.R σ V ads s) (e : ∃ h t, s' = { s with heap := h, toks := t }) (kp : ∀ b o, b ≠ C.env.locals → s.heap.get? b = some o → s'.heap.get? b = some o) (up : s.heap.UpToSlots s'.heap) : C.R σ V ads s' where
  same := by
    obtain ⟨h, t, rfl⟩ := e
    obtain ⟨h', t', e'⟩ := R.same
    exact ⟨h, t, by rw [e']⟩
  sees := fun b o hb => kp b o (fun q => by rw [q, R.hL] at hb; cases hb) (R.sees b o hb)
  glob := R.glob
  keep := fun b o hb => kp b o (fun q => by rw [q, R.kL] at hb; cases hb) (R.keep b o hb)
  vnew := R.vnew
  frame := by
    obtain ⟨m, hN, hx⟩ := R.frame
    refine ⟨m, up.ns hN, fun x l ex => ?_⟩
    obtain ⟨v, q1, q2⟩ := hx x l ex
    refine ⟨v, q1, q2.imp id fun ⟨a, c, b, d⟩ => ⟨a, c, b, ?_⟩⟩
    obtain ⟨o, ho, hd⟩ := d
    exact ⟨o, kp _ _ (cell_ne_ns ⟨o, ho, hd⟩ hN) ho, hd⟩
  Lnew := R.Lnew
  hL := R.hL
  kL := R.kL
  cells := fun hc x c ex => by
    obtain ⟨⟨v, o, q1, q1'⟩, q2⟩ := R.cells hc x c ex
    obtain ⟨m, hN, _⟩ := R.frame
    exact ⟨⟨v, o, kp _ _ (cell_ne_ns ⟨o, q1, q1'⟩ hN) q1, q1'⟩, q2⟩
  olen := R.olen
  own := fun k xs ex => by
    obtain ⟨l, vs, n, h1, h2, h3⟩ := R.own k xs ex
    obtain ⟨m, hN, _⟩ := R.frame
    exact ⟨l, vs, n, h1, kp _ _ (Ne.symm (ns_ne_list hN h2)) h2, h3⟩
  inj := R.inj
  onew := R.onew
  lentP := R.lentP
  aex := fun l hl => (R.aex l hl).imp fun o h => kp _ _ (fun q => R.adL (q ▸ hl)) h
  akv := R.akv
  cex := fun x c e => by
    by_cases q : c = C.env.locals
    · obtain ⟨m, hN, _⟩ := R.frame
      obtain ⟨o, es, ep, ho, _⟩ := up.ns hN
      exact ⟨o, q ▸ ho⟩
    · exact (R.cex x c e).imp fun o h => kp _ _ q h
  adL := R.adL
  adC := R.adC

/-- asking less of what stands around -/
theorem Rel.lessKv {V : View} {ads : List Addr} {s : Shared} (R : C.R σ V ads s) (kv' : View) (h : ∀ b o, kv' b = some o → C.bs.kv b = some o) : (C.wb { C.bs with kv := kv' }).R σ V ads s := by
  have hn : ∀ b, C.bs.kv b = none → kv' b = none := fun b e => by
    cases e' : kv' b with
    | none => rfl
    | some o => rw [h b o e'] at e; cases e
  exact {
    same := R.same
    sees := R.sees
    glob := R.glob
    keep := fun b o e => R.keep b o (h b o e)
    vnew := fun b o e => (R.vnew b o e).imp id fun x => ⟨x.1, hn b x.2⟩
    frame := R.frame
    Lnew := R.Lnew
    hL := R.hL
    kL := hn _ R.kL
    cells := fun hc x c e => by
      obtain ⟨h1, h2, h3, h4⟩ := R.cells hc x c e
      exact ⟨h1, h2, hn _ h3, h4⟩
    olen := R.olen
    own := fun k xs e => by
      obtain ⟨l, vs, n, h1, h2, h3, h4, h5⟩ := R.own k xs e
      exact ⟨l, vs, n, h1, h2, h3, h4, hn _ h5⟩
    inj := R.inj
    onew := R.onew
    lentP := R.lentP
    aex := R.aex
    akv := fun l hl => hn _ (R.akv l hl)
    cex := R.cex
    adL := R.adL
    adC := R.adC }
end
end CR
namespace CR
open PySem PySem.W PyProof.Rows

/-- what the law's own frame wants of the heap, its table of code left out -/
structure LawIn (C : Cx) (H₀ : Heap) (c Pt : Addr) : Prop where
  kv : ∀ b o, H₀.get? b = some o → C.bs.kv b = some o
  code : C.env.code = .ref c
  hd : CodeHd H₀ c Pt
  main : ∃ mg bm ob, H₀.Ns mainGlobals mg ∧ mg "__builtins__" = some (.ref bm) ∧ bm ≠ builtinsNs ∧ H₀.get? bm = some ob ∧ ob.cls = .type "module" ∧ ob.dict = some builtinsNs ∧ ob.data = .plain
  frame : C.env.frame = some C.env.locals
  kind : C.env.scope.kind = .function
  globals : C.env.globals = mainGlobals
  own : C.bs.cellsOwn = true
  fr : ∀ A, C.fr A → A.frames = some [C.env]

def Tabbed (C : Cx) (Pt : Addr) (ps : Array Value) (V : View) (ads : List Addr) (s : Shared) : Prop := Aside C V ads s.heap Pt ∧ s.heap.get? Pt = some (tabObj ps)

section
variable {C : Cx} {σ : St} {ad : Nat → Addr} {H₀ : Heap} {c Pt Cl : Addr}
theorem refuse_step (P : Prg C.K ad) (I : LawIn C H₀ c Pt) {x : Str} (O : OwnAt H₀ x Cl) (hx : nsIn C.K mainGlobals x = some (some (.ref Cl))) {params : Arguments} {body : Expr} {scope : Scope} {lpos np xp pos : Pos} {clos : List (Str × Addr)} {ps : Array Value} {ρ : List (Str × Loc)} {d : Nat}
    {A : Around} {E : Value → Shared → Prop} {s : Shared} {V : View} {ads : List Addr} {Q' : Value → Shared → Prop} (rm : RoomF A C.d C.fr) (hd : d + 2 ≤ C.d) (R : C.R σ V ads s) (T : Tabbed C Pt ps V ads s) (ht : TriplesOk ps.toList) (hnf : codeAmong lpos ps.toList = none)
    (hcl : closureFor scope C.env = pure clos) (hcs : ∀ y a, clos.lookup y = some a → ∃ z, C.env.cells.lookup z = some a)
    (hρ : ∀ y l, ρ.lookup y = some l → σ.ρ.lookup y = some l ∧ (∃ p, l = .pv p) ∧ C.env.kindOf y = some .cell ∧ scope.names.lookup y = some .free ∧ ∀ a, C.env.cells.lookup y = some a → clos.lookup y = some a)
    (hcell : ∀ y ∈ scope.names, y.2 ≠ .cell) (hk : scope.kind = .function) (hco : scope.isCoroutine = false) (hgen : scope.isGenerator = false)
    (hdef : defaultsOf params C.env = ([], [])) (hbind : ∀ pm c' ctv, bindArgs (kla_fn "<lambda>" (C.env.qual ++ "<lambda>") params body scope clos pm (.ref c') ctv) ⟨[], []⟩ = pure [])
    (h : ∀ B, OwnAt B x Cl → ∀ bs L f c' fr out, bs.cellsOwn = false → Under ⟨C.prog, C.w, C.K, bs, envL scope (C.env.qual ++ "<lambda>") L f (.ref c') clos, d, fr⟩ B out →
      WX ⟨C.prog, C.w, C.K, bs, envL scope (C.env.qual ++ "<lambda>") L f (.ref c') clos, d, fr⟩ B out (.ref Cl) LocRep (eval body (envL scope (C.env.qual ++ "<lambda>") L f (.ref c') clos)) ⟨ρ, []⟩ fun _ _ => False)
    (post : ∀ s' c', C.R σ V ads s' → Tabbed C Pt (ps ++ #[rawInt lpos.line, rawInt lpos.col, .ref c']) V ads s' → Q' (.bool true) s')
    (hf37 : C.env.kindOf (Nm "_law_refused") = some .globalImplicit) (hkx : C.env.kindOf x = some .globalImplicit) (hdx : (x == ("__debug__" : Str)) = false)
    (he : starEach [.Lambda params body scope lpos, .Name x xp] C.env = (false, eval (.Lambda params body scope lpos) C.env) :: starEach [.Name x xp] C.env) (he2 : starEach [.Name x xp] C.env = (false, eval (.Name x xp) C.env) :: starEach [] C.env)
    (hplain : (backTo pos (starEach [.Name x xp] C.env)).any (·.1) = false) :
    wpAny (model C.prog C.w) A (eval (.Call (.Name (Nm "_law_refused") np) [.Lambda params body scope lpos, .Name x xp] [] pos) C.env) Q' E s := by
  obtain ⟨aP, tab⟩ := T
  have inH : ∀ b o, H₀.get? b = some o → s.heap.get? b = some o := fun b o e => R.keep b o (I.kv b o e)
  have neP : ∀ b o, H₀.get? b = some o → b ≠ Pt := fun b o e q => by have := I.kv b o e; rw [q, aP.kv] at this; cases this
  obtain ⟨mg₀, bm, ob, hg₀, m1, m2, m3, m4, m5, m6⟩ := I.main
  have hgP : mainGlobals ≠ Pt := by
    obtain ⟨o, es, ep, ho, _⟩ := hg₀
    exact neP _ _ ho
  have hbG : bm ≠ mainGlobals := fun q => by
    obtain ⟨o, es, ep, ho, hd, _⟩ := hg₀
    rw [q, ho] at m3; cases m3; rw [hd] at m6; cases m6
  have hg : s.heap.Ns mainGlobals mg₀ := hg₀.keeps inH
  refine Call_Name rfl ?_
  refine Calls.Name_function_global I.kind hf37 (Calls.loadGlobal_global (env := C.env) (by rw [I.globals]; exact hg) (mg_of R.glh.K hg (g_law_refused P)) ?_) (by decide)
  refine callWith_K (K := C.K) (h₀ := s.heap) (first := []) R.glh.K (P.fn 37 (by decide)).keep (wpAny_items_cons (kla_eval hdef (kla_makeFunction (mg := mg₀) (c := c) (P := Pt) (ps := ps) hcl I.globals hg I.code (I.hd.keeps inH) tab ht hnf hgP ⟨bm, ob, m1, m2, hbG, neP _ _ m3, inH _ _ m3, m4, m5, m6⟩ fun c' ctv h' tk hx' hge hlt hrec htb => ?_)) he) he hplain
  have R₀ : C.R σ V ads { s with heap := h', toks := tk } := R.but (wr := [Pt]) ⟨h', tk, rfl⟩ (fun b hb => by rw [List.mem_singleton] at hb; subst hb; exact aP) fun b o hb e => hx' b o (by simpa using hb) e
  have R₁ := R₀.keeps (s' := { s with heap := h'.push (kla_obj "<lambda>" (C.env.qual ++ "<lambda>") params body scope clos ((mg₀ "__name__").getD .none) c' ctv), toks := tk }) ⟨_, _, rfl⟩ (push_keeps _)
  refine wpAny_items_cons (Calls.Name_function_global I.kind hkx (Calls.loadGlobal_global (env := C.env) (by rw [I.globals]; exact hg₀.keeps fun b o e => R₁.keep b o (I.kv b o e)) (mg_of R.glh.K hg hx) (wpAny_items_nil ⟨R₁.glh.K, ?_⟩)) hdx) he2
  rw [List.nil_append]
  obtain ⟨m, hN, hfm⟩ := R₁.frame
  have hkm : C.env.scope.kind ≠ .module := by rw [I.kind]; intro h; cases h
  have toB : ∀ b o, b ≠ C.env.locals → (h'.push (kla_obj "<lambda>" (C.env.qual ++ "<lambda>") params body scope clos ((mg₀ "__name__").getD .none) c' ctv)).get? b = some o → (hideAll (h'.push (kla_obj "<lambda>" (C.env.qual ++ "<lambda>") params body scope clos ((mg₀ "__name__").getD .none) c' ctv)) [C.env.locals]).get? b = some o := fun b o ne e => hideAll_get _ e (by simpa using ne)
  have HB : ∀ b o, H₀.get? b = some o → (hideAll (h'.push (kla_obj "<lambda>" (C.env.qual ++ "<lambda>") params body scope clos ((mg₀ "__name__").getD .none) c' ctv)) [C.env.locals]).get? b = some o := fun b o e => toB b o (fun q => by have := I.kv b o e; rw [q, R.kL] at this; cases this) (R₁.keep b o (I.kv b o e))
  have OB := PlainKeeps.own (fun b o e _ => HB b o e) O
  have hpush : (h'.push (kla_obj "<lambda>" (C.env.qual ++ "<lambda>") params body scope clos ((mg₀ "__name__").getD .none) c' ctv)).get? h'.objs.size = some (kla_obj "<lambda>" (C.env.qual ++ "<lambda>") params body scope clos ((mg₀ "__name__").getD .none) c' ctv) := Heap.get?_push_size _ rfl
  have hnL : (hideAll (h'.push (kla_obj "<lambda>" (C.env.qual ++ "<lambda>") params body scope clos ((mg₀ "__name__").getD .none) c' ctv)) [C.env.locals]).get? C.env.locals = none := hideAll_none _ (.head _)
  obtain ⟨c₂, oc, vs, t, e2, hoc, hdc, hv⟩ := hrec
  refine law_refused_raw (d := d + 1) (A := A) (outer := [C.env]) (B := hideAll (h'.push (kla_obj "<lambda>" (C.env.qual ++ "<lambda>") params body scope clos ((mg₀ "__name__").getD .none) c' ctv)) [C.env.locals]) P (I.fr A rm.fr) (rm.toRoom.less (by lia)) R₁.glob R₁.sees
    (fun b o e => of_hideAll _ e) (Heap.FunFrames.cons hkm I.frame hN hnL trivial) OB hpush rfl
    (lam_raises R₁.glob R₁.sees (fun b o e => of_hideAll _ e) hpush ⟨c₂, oc, vs, t, e2, Heap.get?_push_of_some _ hoc, hdc, hv⟩ (hbind _ _ _) (ρ := ρ) (fun y l e => ?_) (fun y a e => ?_) hcell (fun bs L fr out hb U => h _ OB bs L _ _ fr out hb U) hk hco hgen) fun h'' tk'' st ff up => ?_
  · obtain ⟨q1, ⟨p, rfl⟩, q2, q3, q4⟩ := hρ y l e
    obtain ⟨v, r, at'⟩ := hfm y _ q1
    rcases at' with ⟨h1, _⟩ | ⟨_, a, ha, ic⟩
    · rw [q2] at h1; cases h1
    · exact ⟨v, r, q3, a, q4 a ha, ic⟩
  · obtain ⟨z, hz⟩ := hcs y a e
    exact R₁.cex z a hz
  · have kp : ∀ b o, b ≠ C.env.locals → (h'.push (kla_obj "<lambda>" (C.env.qual ++ "<lambda>") params body scope clos ((mg₀ "__name__").getD .none) c' ctv)).get? b = some o → h''.get? b = some o := fun b o ne e => st b o (toB b o ne e)
    have hPt : h''.get? Pt = some (tabObj (ps ++ #[rawInt lpos.line, rawInt lpos.col, .ref c'])) := kp _ _ aP.L (Heap.get?_push_of_some _ htb)
    exact post _ c' (R₁.slots ⟨h'', tk'', rfl⟩ kp up) ⟨⟨aP.v, aP.kv, aP.L, aP.cells, aP.ads, _, hPt⟩, hPt⟩
end
end CR
namespace CR
open PySem PySem.W PyProof.Rows
section
variable {prog : Program} {w : World} {K : Frag} {ad : Nat → Addr} {bs : Base} {L : Addr} {q : Str} {cd : Value} {H₀ : Heap} {c Pt c1 c2 : Addr}
def lawTail : List Stmt := (bodyOf 38).drop 20
theorem lawBody : bodyOf 38 = lawHead ++ lawTail := (List.take_append_drop 20 (bodyOf 38)).symm
def lawClos1 (L : Addr) : List (Str × Addr) := [(Nm "w", L + 7), (Nm "odd", L + 6)]
def lawClos2 (L : Addr) : List (Str × Addr) := [(Nm "w", L + 7)]
theorem law_cells : (LEn L (ad 38) q cd).cells.lookup (Nm "w") = some (L + 7) ∧ (LEn L (ad 38) q cd).cells.lookup (Nm "odd") = some (L + 6) := ⟨by with_unfolding_all rfl, by with_unfolding_all rfl⟩
theorem look_cons {y z : Str} {a b : Addr} {r : List (Str × Addr)} (h : ((z, b) :: r).lookup y = some a) : (y = z ∧ b = a) ∨ r.lookup y = some a := by
  rw [List.lookup_cons] at h
  by_cases e : y = z
  · subst e; simp at h; exact .inl ⟨rfl, h⟩
  · rw [beq_eq_false_iff_ne.mpr e] at h; exact .inr h
theorem lookL_cons {y z : Str} {a b : Loc} {r : List (Str × Loc)} (h : ((z, b) :: r).lookup y = some a) : (y = z ∧ b = a) ∨ r.lookup y = some a := by
  rw [List.lookup_cons] at h
  by_cases e : y = z
  · subst e; simp at h; exact .inl ⟨rfl, h⟩
  · rw [beq_eq_false_iff_ne.mpr e] at h; exact .inr h
theorem law_tail (P : Prg K ad) (I : LawIn (LC prog w K bs L (ad 38) q cd) H₀ c Pt) (O1 : OwnAt H₀ (Nm "NoInverse") c1) (O2 : OwnAt H₀ (Nm "DivisionByZero") c2)
    (hx1 : nsIn K mainGlobals (Nm "NoInverse") = some (some (.ref c1))) (hx2 : nsIn K mainGlobals (Nm "DivisionByZero") = some (some (.ref c2)))
    {k : Nat} {ms : List Nat} {O : Option (List PV)} (hk : 1 ≤ k ∧ k ≤ 20) (hml : ms.length ≤ 5) (hmb : ∀ m ∈ ms, m ∈ bas)
    {A : Around} {E : Value → Shared → Prop} {s : Shared} {V : View} {ads : List Addr} {Q' : Flow → Shared → Prop} (rm : RoomF A 12 (LC prog w K bs L (ad 38) q cd).fr)
    (R : (LC prog w K bs L (ad 38) q cd).R ⟨[(Nm "w", pn k), (Nm "odd", .pv (lev k (ms ++ [2, 6])))], [O, none]⟩ V ads s) (T : Tabbed (LC prog w K bs L (ad 38) q cd) Pt #[] V ads s)
    (post : ∀ s' σ ps', (LC prog w K bs L (ad 38) q cd).R σ V ads s' → s'.heap.get? Pt = some (tabObj ps') → Q' (.ret (.bool true)) s') :
    wpAny (model prog w) A (execs lawTail (LEn L (ad 38) q cd)) Q' E s := by
  obtain ⟨cw, co⟩ := law_cells (L := L) (ad := ad) (q := q) (cd := cd)
  refine wpAny_execs_cons (wpAny_If (wpAny_isTrue_Not (wpAny_isTrue_value (refuse_step (C := LC prog w K bs L (ad 38) q cd) (σ := ⟨[(Nm "w", pn k), (Nm "odd", .pv (lev k (ms ++ [2, 6])))], [O, none]⟩) (d := 10) (clos := lawClos1 L) (ρ := [(Nm "w", pn k), (Nm "odd", .pv (lev k (ms ++ [2, 6])))])
    P I O1 hx1 rm (Nat.le_of_ble_eq_true rfl) R T True.intro rfl (by with_unfolding_all rfl) ?cs ?rho ?cell rfl rfl rfl rfl (fun _ _ _ => by with_unfolding_all rfl) ?body ?post (by with_unfolding_all rfl) (by with_unfolding_all rfl) (by decide) (by with_unfolding_all rfl) (by with_unfolding_all rfl) (by with_unfolding_all rfl)) (by with_unfolding_all rfl))))
  case cs =>
    intro y a e
    rcases look_cons e with ⟨_, rfl⟩ | e
    · exact ⟨_, cw⟩
    · rcases look_cons e with ⟨_, rfl⟩ | e
      · exact ⟨_, co⟩
      · cases e
  case rho =>
    intro y l e
    rcases lookL_cons e with ⟨rfl, rfl⟩ | e
    · refine ⟨rfl, ⟨_, rfl⟩, by with_unfolding_all rfl, by with_unfolding_all rfl, fun a ha => ?_⟩
      have ha' : some (L + 7) = some a := cw.symm.trans ha
      cases ha'; rfl
    · rcases lookL_cons e with ⟨rfl, rfl⟩ | e
      · refine ⟨rfl, ⟨_, rfl⟩, by with_unfolding_all rfl, by with_unfolding_all rfl, fun a ha => ?_⟩
        have ha' : some (L + 6) = some a := co.symm.trans ha
        cases ha'; rfl
      · cases e
  case cell => decide
  case body =>
    intro B OB bs' L' f c' fr out hc U
    refine x_call (a := ad 20) (ps := [lev k (ms ++ [2, 6]), .int k, .ref (ad 36)]) U (g_pairwise_apart P) (P.fn 20 (by decide)).keep (pairwise_raise P hk OB (ms ++ [2, 6]) ?_ ?_ ?_) (Nat.le_of_ble_eq_true rfl) ?_
    · rw [List.length_append]
      show ms.length + 2 ≤ 100
      lia
    · intro n hn
      rcases List.mem_append.mp hn with h | h
      · have := bas_small n (hmb n h)
        exact ⟨this.1, Nat.lt_of_le_of_lt this.2 (by decide)⟩
      · rcases List.mem_cons.mp h with rfl | h
        · exact ⟨by decide, by decide⟩
        · rw [List.mem_singleton.mp h]; exact ⟨by decide, by decide⟩
    · exact ⟨ms.length + 1, ms.length, 6, 2, Nat.lt_succ_self _, by rw [List.getElem?_append_right (by lia)]; simp, by rw [List.getElem?_append_right (Nat.le_refl _)]; simp, by decide⟩
    · repeat (with_reducible first | (refine x_name ?_; refine ⟨_, by with_unfolding_all rfl, ?_⟩) | refine l_cons ?_ | refine l_nil ?_ | (refine e_glob (g_law_divisor (by assumption)) ?_))
      rfl
  case post =>
    intro s₁ c' R₁ T₁
    refine wpAny_truthy_bool ?_
    refine wpAny_execs_nil ?_
    refine wpAny_execs_cons (wpAny_Return_some (refuse_step (C := LC prog w K bs L (ad 38) q cd) (σ := ⟨[(Nm "w", pn k), (Nm "odd", .pv (lev k (ms ++ [2, 6])))], [O, none]⟩) (d := 10) (clos := lawClos2 L) (ρ := [(Nm "w", pn k)])
      P I O2 hx2 rm (Nat.le_of_ble_eq_true rfl) R₁ T₁ True.intro (by with_unfolding_all rfl) (by with_unfolding_all rfl) ?cs2 ?rho2 ?cell2 rfl rfl rfl rfl (fun _ _ _ => by with_unfolding_all rfl) ?body2 (fun s₂ c₂ R₂ T₂ => post s₂ _ _ R₂ T₂.2) (by with_unfolding_all rfl) (by with_unfolding_all rfl) (by decide) (by with_unfolding_all rfl) (by with_unfolding_all rfl) (by with_unfolding_all rfl)))
    case cs2 =>
      intro y a e
      rcases look_cons e with ⟨_, rfl⟩ | e
      · exact ⟨_, cw⟩
      · cases e
    case rho2 =>
      intro y l e
      rcases lookL_cons e with ⟨rfl, rfl⟩ | e
      · refine ⟨rfl, ⟨_, rfl⟩, by with_unfolding_all rfl, by with_unfolding_all rfl, fun a ha => ?_⟩
        have ha' : some (L + 7) = some a := cw.symm.trans ha
        cases ha'; rfl
      · cases e
    case cell2 => decide
    case body2 =>
      intro B OB bs' L' f c' fr out hc U
      refine x_call (a := ad 15) (ps := [num k 1, .list ([[0]].map (lev k)), .int k, .ref (ad 28)]) U (g_remainder_tree P) (P.fn 15 (by decide)).keep (remainder_raise P hk OB) (Nat.le_of_ble_eq_true rfl) ?_
      repeat (with_reducible first | refine e_nat ?_ | refine l_cons ?_ | refine l_nil ?_ | refine e_list ?_ | refine ⟨[_], by with_unfolding_all rfl, by (first | assumption | (with_unfolding_all exact Nat.le_of_ble_eq_true rfl) | (apply Nat.le_trans; assumption; with_unfolding_all exact Nat.le_of_ble_eq_true rfl) | (apply Nat.lt_of_le_of_lt; assumption; with_unfolding_all exact Nat.le_of_ble_eq_true rfl) | ((try simp only [List.length_map, List.length_append, List.length_cons, List.length_nil, List.length_set, List.length_replicate, List.length_take, List.length_drop, List.length_reverse]); first | assumption | lia) | decide), ?_⟩)
      refine .inl ?_
      repeat (with_reducible first | refine l_cons ?_ | refine l_nil ?_ | refine e_list ?_ | refine ⟨[], rfl, by decide, ?_⟩)
      refine .inl ?_
      refine l_nil ⟨[.list []], rfl, by decide, .inl ?_⟩
      refine l_nil ⟨[.list [.list []]], rfl, by decide, .inl ?_⟩
      repeat (with_reducible first | (refine x_name ?_; refine ⟨_, by with_unfolding_all rfl, ?_⟩) | refine l_cons ?_ | refine l_nil ?_ | (refine e_glob (g_divrem_school (by assumption)) ?_))
      have e0 : num k 0 = .list [] := by rw [num, limbs_zero]; rfl
      have e1 : num k 1 = .list [pnat 1] := by rw [num, num_one hk.1]; rfl
      show _ = [Loc.pv (num k 1), .pv (.list [.list [num k 0]]), pn k, .pv (.ref (ad 28))]
      rw [e0, e1]
end
end CR
namespace CR
open PySem PySem.W PyProof.Rows

theorem execs_app_eq (ys : List Stmt) (env : Env) : ∀ xs : List Stmt, execs (xs ++ ys) env = (execs xs env >>= fun f => match f with | .next => execs ys env | f => pure f)
  | [] => by
    show execs ys env = _
    rw [show execs [] env = pure Flow.next from rfl, pure_bind]
  | x :: xs => by
    rw [List.cons_append, execs_cons, execs_cons, bind_assoc]
    congr 1
    funext f
    cases f with
    | next => exact execs_app_eq ys env xs
    | brk => rw [pure_bind]
    | cont => rw [pure_bind]
    | ret v => rw [pure_bind]
theorem wpAny_execs_app {M : Model} {A : Around} {E : Value → Shared → Prop} {s : Shared} {env : Env} {xs ys : List Stmt} {Q : Flow → Shared → Prop}
    (h : wpAny M A (execs xs env) (fun f s' => match f with | .next => wpAny M A (execs ys env) Q E s' | f => Q f s') E s) : wpAny M A (execs (xs ++ ys) env) Q E s := by
  rw [execs_app_eq]
  refine wpAny_bind (wpAny_mono h (fun f s' h' => ?_) fun _ _ x => x)
  cases f with
  | next => exact h'
  | brk => exact wpAny_pure h'
  | cont => exact wpAny_pure h'
  | ret v => exact wpAny_pure h'

section
variable {prog : Program} {w : World} {K : Frag} {ad : Nat → Addr}
def HeadEnd (rf : RF) (σ : St) : Prop := rf = .next ∧ ∃ k ms O, (1 ≤ k ∧ k ≤ 20) ∧ ms.length ≤ 5 ∧ (∀ m ∈ ms, m ∈ bas) ∧ σ = ⟨[(Nm "w", pn k), (Nm "odd", .pv (lev k (ms ++ [2, 6])))], [O, none]⟩
theorem law_head (P : Prg K ad) {bs : Base} {L : Addr} {q : Str} {cd : Value} (hc : bs.cellsOwn = true) (hl : bs.lent.length = 0) {zs : List Int} (hz : zs.length ≤ 1000000) :
    WB (LC prog w K bs L (ad 38) q cd) lawHead ⟨[(Nm "script", .pv (.list (zs.map .int)))], []⟩ HeadEnd :=
  law_s1 P hc hl hz fun k many ms rs nums i s D DO => law_s2 P hc hl D DO (law_s3 P hc hl D DO fun O => law_s4 P hc D (law_s5 P hc D (law_s6 P hc D.k (by have := D.len; lia) (b_nil ⟨rfl, k, ms, O, D.k, by have := D.len; lia, D.mem, rfl⟩))))
end
end CR
namespace CR
open PySem PySem.W PyProof.Rows

section
variable {prog : Program} {w : World} {K : Frag} {ad : Nat → Addr}
theorem law_raw (P : Prg K ad) {s : Shared} {c Pt c1 c2 : Addr} {zs : List Int} {vs : List Value} {A : Around} {E Q' : Value → Shared → Prop} (hA : A.frames = some []) (rm : Room A 13) (gl : Gl K (s.heap.hide Pt).get?) (hz : zs.length ≤ 1000000)
    (rs : Reps (s.heap.hide Pt).get? [.list (zs.map .int)] vs)
    (hfn : ∃ nm q doc pm an ct oc od osl, K.lookup (ad 38) = some ⟨oc, od, .func (fnOf nm q (paramsOf 38) (bodyOf 38) (scopeOf 38) .none .none doc pm an (.ref c) ct), osl⟩)
    (hd : CodeHd (s.heap.hide Pt) c Pt) (tab : s.heap.get? Pt = some (tabObj #[]))
    (main : ∃ mg bm ob, (s.heap.hide Pt).Ns mainGlobals mg ∧ mg "__builtins__" = some (.ref bm) ∧ bm ≠ builtinsNs ∧ (s.heap.hide Pt).get? bm = some ob ∧ ob.cls = .type "module" ∧ ob.dict = some builtinsNs ∧ ob.data = .plain)
    (O1 : OwnAt (s.heap.hide Pt) (Nm "NoInverse") c1) (O2 : OwnAt (s.heap.hide Pt) (Nm "DivisionByZero") c2) (hx1 : nsIn K mainGlobals (Nm "NoInverse") = some (some (.ref c1))) (hx2 : nsIn K mainGlobals (Nm "DivisionByZero") = some (some (.ref c2)))
    (post : ∀ s', (∃ h t, s' = { s with heap := h, toks := t }) → (∀ b o, b ≠ Pt → s.heap.get? b = some o → s'.heap.get? b = some o) → (∃ ps', s'.heap.get? Pt = some (tabObj ps')) → Q' (.bool true) s') :
    wpAny (model prog w) A (call (.ref (ad 38)) vs) Q' E s := by
  have hide : ∀ b o, (s.heap.hide Pt).get? b = some o → s.heap.get? b = some o ∧ b ≠ Pt := fun b o e => by
    by_cases q : b = Pt
    · subst q; rw [Heap.hide_self] at e; cases e
    · rw [Heap.hide_ne _ q] at e; exact ⟨e, q⟩
  refine fcall_raw (P.fn 38 (by decide)) [Nm "script"] (by intro nm q doc pm an cdv ct vals h; obtain ⟨a, e⟩ := len1 h; subst e; with_unfolding_all rfl) (kinds_ok fun _ => rfl) (by decide) rfl rm gl (fun b o e => (hide b o e).1) rs (fun bs q cd s₁ b1 b2 b3 b4 b5 hcd R rm' => ?_)
  have ecd : cd = .ref c := by
    obtain ⟨nm, q', doc, pm, an, ct, oc, od, osl, h1⟩ := hfn
    obtain ⟨nm', doc', pm', an', ct', oc', od', osl', h2⟩ := hcd
    rw [h1] at h2
    injection h2 with h2
    injection h2 with _ _ h2 _
    injection h2 with h2
    exact (congrArg FuncData.code h2).symm
  subst ecd
  rw [show bodyOf 38 = lawHead ++ lawTail from lawBody]
  refine wpAny_execs_app (law_head (L := s.heap.objs.size) (q := q) (cd := .ref c) (prog := prog) (w := w) (bs := bs) P b2 (by rw [b1]; rfl) hz (A.deeper _) _ s₁ (s.heap.hide Pt).get? [] _ ⟨rm', Around.frames_deeper hA⟩ R fun f s₂ V₂ ads₂ rf σ₂ le pr R₂ fr fin => ?_)
  obtain ⟨rfl, k, ms, O, hk, hml, hmb, rfl⟩ := fin
  cases fr
  have hPt : Pt < s.heap.objs.size := Heap.lt_size tab
  have kvP : bs.kv Pt = some (tabObj #[]) := by rw [b5]; exact tab
  have R₃ := R₂.lessKv (s.heap.hide Pt).get? fun b o e => by show bs.kv b = _; rw [b5]; exact (hide b o e).1
  have tab₂ : s₂.heap.get? Pt = some (tabObj #[]) := R₂.keep _ _ kvP
  refine law_tail (bs := { bs with kv := (s.heap.hide Pt).get? }) (H₀ := s.heap.hide Pt) (c := c) (Pt := Pt) P ⟨fun b o e => e, rfl, hd, main, rfl, by with_unfolding_all rfl, rfl, b2, fun _ e => e⟩ O1 O2 hx1 hx2 hk hml hmb ⟨rm', Around.frames_deeper hA⟩ R₃
    ⟨⟨?_, Heap.hide_self _ _, Nat.ne_of_lt hPt, fun x e => ?_, fun hm => ?_, _, tab₂⟩, tab₂⟩ fun s' σ ps' R' hT => ?_
  · cases e : V₂ Pt with
    | none => rfl
    | some o =>
      rcases R₂.vnew Pt o e with ⟨o', e'⟩ | ⟨h1, _⟩
      · have e'' : bs.V₀ Pt = some o' := e'
        rw [b4, Heap.hide_self] at e''; cases e''
      · have h1' : bs.s₀.heap.objs.size ≤ Pt := h1
        rw [b3] at h1'
        exact absurd hPt (Nat.not_lt.mpr h1')
  · obtain ⟨_, _, h3, _⟩ := R₂.cells b2 x Pt e
    have h3' : bs.kv Pt = none := h3
    rw [kvP] at h3'; cases h3'
  · have h3' : bs.kv Pt = none := R₂.akv Pt hm
    rw [kvP] at h3'; cases h3'
  · refine post s' ?_ (fun b o ne e => R'.keep b o ?_) ⟨ps', hT⟩
    · rw [← b3]; exact R'.same
    · show (s.heap.hide Pt).get? b = some o
      rw [Heap.hide_ne _ ne]; exact e
end
end CR
namespace CR
open PySem PySem.W PySem.Calls PyProof.Rows

def snap (g : Heap) : Frag := (List.range g.objs.size).filterMap fun a => (g.get? a).map fun o => (a, o)
theorem snap_aux (f : Nat → Option Obj) (a : Nat) : ∀ l : List Nat, (l.filterMap fun a => (f a).map fun o => (a, o)).lookup a = if a ∈ l then f a else none
  | [] => by simp
  | b :: r => by
    have ih := snap_aux f a r
    rw [List.filterMap_cons]
    cases hb : f b with
    | none =>
      simp only [Option.map_none]
      rw [ih]
      by_cases q : a = b
      · subst q; simp [hb]
      · simp [q]
    | some o =>
      simp only [Option.map_some]
      rw [List.lookup_cons]
      by_cases q : a = b
      · subst q; simp [hb]
      · rw [beq_eq_false_iff_ne.mpr q]
        simp only
        rw [ih]
        simp [q]
theorem snap_look (g : Heap) (a : Addr) : (snap g).lookup a = g.get? a := by
  unfold snap
  rw [snap_aux g.get? a]
  split
  · rfl
  · rename_i h
    cases e : g.get? a with
    | none => rfl
    | some o => exact absurd (List.mem_range.mpr (Heap.lt_size e)) h
theorem snap_in {g h : Heap} (k : ∀ b o, g.get? b = some o → h.get? b = some o) : (snap g).In h := fun a o e => k a o (by rw [← snap_look]; exact e)
theorem nsIn_snap {g : Heap} {a : Addr} {m : Str → Option Value} (N : g.Ns a m) (x : Str) : nsIn (snap g) a x = some (m x) := by
  obtain ⟨⟨oc, od, dat, sl⟩, es, ep, ho, hd, hs, hx⟩ := N
  cases hd
  have hx' : (es.toList.find? fun e => e.key.isStr x).map (·.val) = m x := by
    rw [← hx x, nsFind, findBy, Array.find?_toList]
  unfold nsIn
  rw [snap_look, ho]
  simp only
  cases hf : es.toList.find? (fun e => e.key.isStr x) with
  | some e =>
    rw [hf] at hx'
    show some (some e.val) = some (m x)
    rw [← hx']; rfl
  | none =>
    rw [hf] at hx'
    have hn : es.toList.any (·.refKey) = false := by
      rw [List.any_eq_false]
      intro e he
      obtain ⟨n, t, hk⟩ := hs e (Array.mem_toList_iff.mp he)
      simp only [DictEntry.refKey, hk]
      decide
    show (if es.toList.any (·.refKey) then none else some none) = some (m x)
    rw [hn, ← hx']; rfl
theorem codeIn_snap {g : Heap} {cd : Value} {q : Str} (h : g.CodeRec cd q) : codeIn (snap g) cd q = true := by
  obtain ⟨c, ⟨oc, od, dat, sl⟩, vs, t, rfl, ho, hd, hv⟩ := h
  cases hd
  unfold codeIn
  simp only [snap_look, ho]
  obtain ⟨l⟩ := vs
  simp only [List.getElem?_toArray] at hv
  match l, hv with
  | _ :: y :: _, hv =>
    simp only [List.getElem?_cons_succ, List.getElem?_cons_zero, Option.some.injEq] at hv
    subst hv
    simp
end CR
namespace CR
open PySem PySem.W PySem.Calls PyProof.Rows

abbrev defsAt : List Nat := [4, 5, 6, 7, 8, 9, 10, 12, 13, 14, 15, 16, 17, 18, 19, 20, 22, 23, 24, 25, 26, 27, 28, 30, 31, 32, 33, 34, 35, 36, 37, 38]
theorem recs_view : recsOf view = defsAt.map recOf := by with_unfolding_all rfl
theorem rec_mem {i : Nat} (h : i ∈ defsAt) : recOf i ∈ recsOf view := by rw [recs_view]; exact List.mem_map_of_mem h
theorem own1 : specOf view (Nm "NoInverse") = some ("Exception.__new__", [.type "Exception", .type "BaseException", .type "object"]) := by with_unfolding_all rfl
theorem own2 : specOf view (Nm "DivisionByZero") = some ("Exception.__new__", [.type "Exception", .type "BaseException", .type "object"]) := by with_unfolding_all rfl
theorem free_names : (["len", "range", "min", "any", "enumerate", "zip", "abs", "int", "sum"].all fun x => !startupNames.contains (Str.ofString x) && !(looseW view []).contains (Str.ofString x) && !((recsOf view).map (·.name)).contains (Str.ofString x) && !((litsOf view).map (·.1)).contains (Str.ofString x) && !((clssOf view (looseW view [])).map (·.name)).contains (Str.ofString x)) = true := by decide +kernel

section
variable {mg mb : Str → Option Value} {mean : ExcName → Option Value} {h : Heap} {Pt : Addr}
def adOf (mg : Str → Option Value) (i : Nat) : Addr := match mg (nameOf i) with | some (.ref a) => a | _ => 0
theorem hide_plain {ps : Array Value} (tab : h.get? Pt = some (tabObj ps)) : ∀ b o, h.get? b = some o → (∀ vs, o.data ≠ .fields vs) → (h.hide Pt).get? b = some o := fun b o e nf => by
  rw [Heap.hide_ne _ (fun q => by subst q; rw [tab] at e; cases e; exact nf ps rfl)]; exact e
theorem hide_ns {ps : Array Value} (tab : h.get? Pt = some (tabObj ps)) {a : Addr} {m : Str → Option Value} (x : h.Ns a m) : (h.hide Pt).Ns a m := by
  obtain ⟨o, es, ep, ho, hd, r⟩ := x
  exact ⟨o, es, ep, hide_plain tab _ _ ho (fun vs q => by rw [hd] at q; cases q), hd, r⟩
theorem hide_code (tab : h.get? Pt = some (tabObj #[])) {cd : Value} {q : Str} (x : h.CodeRec cd q) : (h.hide Pt).CodeRec cd q := by
  obtain ⟨c, o, vs, t, rfl, ho, hd, hv⟩ := x
  refine ⟨c, o, vs, t, rfl, ?_, hd, hv⟩
  rw [Heap.hide_ne _ (fun q => by subst q; rw [tab] at ho; cases ho; cases hd; simp at hv)]; exact ho
theorem adOf_eq {i : Nat} {a : Addr} (e : mg (nameOf i) = some (.ref a)) : adOf mg i = a := by unfold adOf; rw [e]
theorem prg_of (T : Top view (looseW view []) mean mg mb h) (tab : h.get? Pt = some (tabObj #[])) : Prg (snap (h.hide Pt)) (adOf mg) where
  fn := fun i hi => by
    obtain ⟨a, o, pm, code, doc, h1, h2, h3, h4⟩ := T.fn (recOf i) (rec_mem hi)
    rw [adOf_eq h1]
    obtain ⟨oc, od, dat, osl⟩ := o
    cases h3
    refine ⟨nameOf i, nameOf i, doc, pm, (docDef (nameOf i) (paramsOf i) (bodyOf i) (scopeOf i) pm code doc).annotations, code, (docDef (nameOf i) (paramsOf i) (bodyOf i) (scopeOf i) pm code doc).closureTuple, oc, od, osl, ?_, codeIn_snap (hide_code tab h4)⟩
    rw [snap_look]
    exact hide_plain tab _ _ h2 fun vs q => by cases q
  gl := fun i hi => by
    obtain ⟨a, o, pm, code, doc, h1, h2, h3, h4⟩ := T.fn (recOf i) (rec_mem hi)
    rw [adOf_eq h1, nsIn_snap (hide_ns tab T.g)]
    exact congrArg some h1
  bi := fun x hx => by
    rw [nsIn_snap (hide_ns tab T.g)]
    have := List.all_eq_true.mp free_names x hx
    simp only [Bool.and_eq_true, Bool.not_eq_true', List.contains_eq_mem, decide_eq_false_iff_not] at this
    exact congrArg some (T.free _ this.1.1.1.1 this.1.1.1.2 this.1.1.2 this.1.2 this.2)
theorem gl_of (T : Top view (looseW view []) mean mg mb h) (tab : h.get? Pt = some (tabObj #[])) : Gl (snap (h.hide Pt)) (h.hide Pt).get? := fun g se =>
  ⟨snap_in se, ⟨mg, (hide_ns tab T.g).keeps se⟩, ⟨mb, (hide_ns tab T.b).keeps se, T.builtins⟩, by
    obtain ⟨mc, h1, h2⟩ := T.nolimit
    exact ⟨mc, (hide_ns tab h1).keeps se, h2⟩⟩
end
end CR
namespace CR
open PySem PySem.W PySem.Calls PyProof.Rows
theorem reps_ints {P : Params} {h : Heap} {V : View} : ∀ {zs : List Int} {vs : List Value}, WellAll P h vs (ofPys (zs.map PyData.int)) → Reps V (zs.map PV.int) vs
  | [], vs, x => by
    cases x
    exact .nil
  | z :: zs, vs, x => by
    obtain ⟨v, vs', rfl, h1, h2⟩ := wellAll_cons_inv x
    refine .cons ?_ (reps_ints h2)
    simp only [ofPy] at h1
    cases h1
    simp only [Rep]
    exact ⟨_, rfl⟩
theorem well_ints {P : Params} {h : Heap} {zs : List Int} {v : Value} (x : Well P h v (ofPy (PyData.list (zs.map PyData.int)))) : ∃ a vs n, v = .ref a ∧ h.get? a = some (lst vs.toArray n) ∧ WellAll P h vs (ofPys (zs.map PyData.int)) := by
  simp only [ofPy] at x
  cases x with
  | list h1 h2 => exact ⟨_, _, _, rfl, h1, h2⟩
theorem final (head : (WalkO view [] (XL view []) Hook.none.says PySem.Challenge.rw_nn0025_01.row.toRowW (recOf 38) [] fun f vs => PySem.call f vs) → PySem.Challenge.rw_nn0025_01.Holds) 
  (main : ∀ (w : World) (s₀ s₁ : Shared) (mg mb : Str → Option Value) (fa : Addr) (v : Value) (zs : List Int) (Q' E : Value → Shared → Prop), Ground view [] PySem.Challenge.rw_nn0025_01.row.toRowW.records (XL view []) w s₀ mg mb s₁.heap → mg (recOf 38).name = some (.ref fa) → zs.length ≤ 63 → Well w.params s₁.heap v (ofPy (PyData.list (zs.map PyData.int))) → 
    (∀ s', (∃ h t, s' = { s₁ with heap := h, toks := t }) → OldK s₁.heap s'.heap → Q' (.bool true) s') → wpAny (model PySem.Challenge.rw_nn0025_01.row.prog w) callerA (call (.ref fa) [v]) Q' E s₁) : PySem.Challenge.rw_nn0025_01.Holds := head <| by
  intro w s₀ s₁ mg mb G Y fa o pm cd doc dV kV ho hd hcd hD hmg hg args vals as hpre hlay hrd hwl hlo
  wrow_args hpre hlay hrd hwl hlo
  rename_i w1 _ _ _ hlen _
  refine main w s₀ s₁ mg mb fa _ _ _ _ G hmg (by lia) w1 ?_
  rintro s' ⟨h, t, rfl⟩ K
  refine ⟨.inl ⟨.bool true, .bool true, [], rfl, fun cls => rfl, .bool true, ?_, fun _ => ⟨.nil, fun a ha => by cases ha⟩⟩, K, rfl, .of_eq hg⟩
  wrow_post
end CR
namespace CR
open PySem PySem.W PySem.Calls PyProof.Rows
theorem hide_hd {h : Heap} {c Pt : Addr} (x : CodeHd h c Pt) : CodeHd (h.hide Pt) c Pt :=
  let ⟨o, vs, file, tf, flags, tg, inF, text, tt, e1, e2, e3, e4, f3, f4, f5, f6, f7, f11⟩ := x
  ⟨o, vs, file, tf, flags, tg, inF, text, tt, by rw [Heap.hide_ne _ f11]; exact e1, e2, e3, e4, f3, f4, f5, f6, f7, f11⟩
theorem own_top {mg mb : Str → Option Value} {mean : ExcName → Option Value} {h : Heap} {Pt : Addr} {x : Str} (T : Top view (looseW view []) mean mg mb h) (tab : h.get? Pt = some (tabObj #[])) (e : specOf view x = some ("Exception.__new__", [.type "Exception", .type "BaseException", .type "object"])) :
    ∃ C, OwnAt (h.hide Pt) x C ∧ nsIn (snap (h.hide Pt)) mainGlobals x = some (some (.ref C)) := by
  obtain ⟨C, OQ, _⟩ := T.ownAt e
  refine ⟨C, PlainKeeps.own (hide_plain tab) ⟨mg, _, _, _, _, _, _, _, _, T.g, OQ, PySem.F.excBase_Exception, by decide, PySem.F.excBase_Exception, by decide⟩, ?_⟩
  rw [nsIn_snap (hide_ns tab T.g), OQ.bound]
theorem main_ok (w : World) (s₀ s₁ : Shared) (mg mb : Str → Option Value) (fa : Addr) (v : Value) (zs : List Int) (Q' E : Value → Shared → Prop) (G : Ground view [] PySem.Challenge.rw_nn0025_01.row.toRowW.records (XL view []) w s₀ mg mb s₁.heap) (hmg : mg (recOf 38).name = some (.ref fa)) (hz : zs.length ≤ 63)
    (hw : Well w.params s₁.heap v (ofPy (PyData.list (zs.map PyData.int)))) (post : ∀ s', (∃ h t, s' = { s₁ with heap := h, toks := t }) → OldK s₁.heap s'.heap → Q' (.bool true) s') : wpAny (model PySem.Challenge.rw_nn0025_01.row.prog w) callerA (call (.ref fa) [v]) Q' E s₁ := by
  have T := G.T
  obtain ⟨la, vs, n, rfl, hl, hwell⟩ := well_ints hw
  obtain ⟨a, o, fd, c, Pt, h1, h2, h3, h4, h5, h6⟩ := T.tab (recOf 38) (rec_mem (by decide))
  have ea : a = fa := by rw [hmg] at h1; cases h1; rfl
  subst ea
  have tab : s₁.heap.get? Pt = some (tabObj #[]) := h6.2
  obtain ⟨c1, O1, x1⟩ := own_top T tab own1
  obtain ⟨c2, O2, x2⟩ := own_top T tab own2
  have efa : adOf mg 38 = a := adOf_eq hmg
  rw [← efa]
  refine law_raw (K := snap (s₁.heap.hide Pt)) (ad := adOf mg) (c := c) (Pt := Pt) (zs := zs) (prg_of T tab) rfl ⟨rfl, by decide, by decide⟩ (gl_of T tab) (by lia) ?rs ?fn (hide_hd (CodeHd.of h5 h6)) tab ?main O1 O2 x1 x2 fun s' hs hk ht => post s' hs ⟨fun b o' e => ?old, fun b o' e => ?there⟩
  case rs =>
    refine .cons ?_ .nil
    simp only [Rep]
    exact ⟨la, vs.toArray, n, rfl, hide_plain tab _ _ hl (fun vs q => by cases q), reps_ints hwell⟩
  case fn =>
    obtain ⟨a', o2, pm, code, doc, g1, g2, g3, g4⟩ := T.fn (recOf 38) (rec_mem (by decide))
    have ea : a' = a := by rw [hmg] at g1; cases g1; rfl
    subst ea
    have eo : o2 = o := by rw [h2] at g2; cases g2; rfl
    subst eo
    have ec : code = .ref c := by
      rw [h3] at g3
      cases g3
      exact h4
    subst ec
    obtain ⟨oc, od, dat, osl⟩ := o2
    cases g3
    refine ⟨nameOf 38, nameOf 38, doc, pm, (docDef (nameOf 38) (paramsOf 38) (bodyOf 38) (scopeOf 38) pm (.ref c) doc).annotations, (docDef (nameOf 38) (paramsOf 38) (bodyOf 38) (scopeOf 38) pm (.ref c) doc).closureTuple, oc, od, osl, ?_⟩
    rw [efa, snap_look]
    exact hide_plain tab _ _ h2 fun vs q => by cases q
  case main =>
    obtain ⟨bm, ob, b1, b2, b3, b4, b5, b6⟩ := T.bmain
    exact ⟨mg, bm, ob, hide_ns tab T.g, b1, b2, hide_plain tab _ _ b3 (fun vs q => by rw [b6] at q; cases q), b4, b5, b6⟩
  case old =>
    by_cases q : b = Pt
    · subst q
      obtain ⟨ps', ht⟩ := ht
      rw [tab] at e; cases e
      exact .inr (.inl ⟨h6.isCodeTable, rfl, #[], ps', rfl, by rw [Array.empty_append]; exact ht⟩)
    · exact .inl (hk b o' q e)
  case there =>
    by_cases q : b = Pt
    · subst q
      obtain ⟨ps', ht⟩ := ht
      exact ⟨_, ht⟩
    · exact ⟨_, hk b o' q e⟩
end CR
theorem PySem.Challenge.cw_nn0025_01_holds : PySem.Challenge.rw_nn0025_01.Holds := by
  exact CR.final CR.head CR.main_ok
