import PyProof.Rows.All
import Wide.All
import OpenK.AllK
import Wide.FinOn
import KE.KUnpack
import PyProof.ExcBaseAll.Exception
import PyProof.InstStoreFacts
import OpenK.KMore
import KE.BytesMake
import KE.KxBytes
import Lean
import PySem.Challenge.RW_ok0150_01
open PySem PySem.W PySem.Calls PyProof.Rows
set_option Elab.async false
set_option maxRecDepth 100000
set_option linter.unusedVariables false
set_option linter.all false
namespace Mine
theorem n12 {n : Nat} (h : n = 1 ∨ n = 2) : n ≤ 2 := by rcases h with rfl | rfl <;> decide
theorem castL {i m k : Nat} {K : Int} (h : i < m) (h1 : m ≤ k) (h2 : (k : Int) ≤ K) : (i : Int) < K := by lia
theorem len_mr {α : Type} {n k K : Nat} {f : Nat → α} (h : n ≤ k) (h2 : k ≤ K) : ((List.range n).map f).length ≤ K := by rw [List.length_map, List.length_range]; exact Nat.le_trans h h2

noncomputable abbrev Led := Addr → Option Obj
noncomputable def Led.le (f g : Led) : Prop := ∀ a o, f a = some o → g a = some o
theorem Led.le.refl (f : Led) : Led.le f f := fun _ _ h => h
theorem Led.le.trans {f g k : Led} (a : Led.le f g) (b : Led.le g k) : Led.le f k := fun _ _ h => b _ _ (a _ _ h)

inductive PV where
  | none
  | bool (b : Bool)
  | int (i : Int)
  | str (s : Str)
  | bytes (b : Array UInt8)
  | raw (v : Value)
  | ptr (a : Addr)
  | list (l : List PV)
  | tuple (l : List PV)
  | inst (c : Str) (fs : List (Str × PV))
  | dict (es : List (List Int × PV))
  | mi (a : Addr) (c : Str) (d : Addr)
  | rng (lo hi st : Int)

structure Cx where
  prog : Program
  w : World
  h₀ : Heap
  mg : Str → Option Value
  mb : Str → Option Value
  K : Frag
  g : Array GenState
  os : OsState

noncomputable abbrev lO (vs : List Value) (n : Nat) : Obj := { cls := .type "list", data := .seq vs.toArray n }
noncomputable abbrev tO (vs : List Value) (n : Nat) : Obj := { cls := .type "tuple", data := .seq vs.toArray n }

noncomputable abbrev Cx.tk (c : Cx) : HeapKind c.prog c.w (List Int) := tupleKind (intKind c.prog c.w)

theorem ns {β : Type _} {z : Option β} {o : β} {P : Prop} (h : z = none) (e : z = some o) : P := nomatch h.symm.trans e
theorem nes {α β : Type _} {f : α → Option β} {a b : α} {o : β} (h : f a = none) (e : f b = some o) : b ≠ a := fun q => ns (q ▸ h : f b = none) e
theorem none_of {β : Type _} {z : Option β} (h : ∀ o, z = some o → False) : z = none := by
  cases z with | none => rfl | some o => exact (h o rfl).elim
theorem lookup_case {κ β : Type} [BEq κ] [LawfulBEq κ] {p : κ × β} {r : List (κ × β)} {x : κ} {v : β} {P : Prop} (e : (p :: r).lookup x = some v) (h1 : x = p.1 → p.2 = v → P) (h2 : x ≠ p.1 → r.lookup x = some v → P) : P := by
  rw [List.lookup_cons] at e
  by_cases hx : x = p.1
  · rw [hx, beq_self_eq_true] at e; exact h1 hx (Option.some.inj e)
  · rw [beq_false_of_ne hx] at e; exact h2 hx e
theorem lookup_hit {κ β : Type} [BEq κ] [LawfulBEq κ] {p : κ × β} {r : List (κ × β)} {x : κ} (h : x = p.1) : (p :: r).lookup x = some p.2 := by rw [h]; exact List.lookup_cons_self
theorem lookup_ne {κ β : Type} [BEq κ] [LawfulBEq κ] {p : κ × β} {r : List (κ × β)} {x : κ} (h : x ≠ p.1) : (p :: r).lookup x = r.lookup x := by rw [List.lookup_cons, beq_false_of_ne h]
mutual
inductive R (c : Cx) (fz : Led) : Value → PV → Prop
  | none : R c fz .none .none
  | bool (b : Bool) : R c fz (.bool b) (.bool b)
  | int (i : Int) (t : Tok) : R c fz (.int i t) (.int i)
  | str (x : Str) (t : Tok) : R c fz (.str x t) (.str x)
  | bytes (b : Array UInt8) (t : Tok) : R c fz (.bytes b t) (.bytes b)
  | raw (v : Value) : R c fz v (.raw v)
  | ptr (a : Addr) : R c fz (.ref a) (.ptr a)
  | list {a : Addr} {vs : List Value} {n : Nat} {l : List PV} : fz a = some (lO vs n) → RA c fz vs l → R c fz (.ref a) (.list l)
  | tuple {a : Addr} {vs : List Value} {n : Nat} {l : List PV} : fz a = some (tO vs n) → RA c fz vs l → R c fz (.ref a) (.tuple l)
  | inst {a C d : Addr} {es : List DictEntry} {n : Nat} {k : Str} {fs : List (Str × PV)} : c.mg k = some (.ref C) → fz a = some (instObj C d) → fz d = some (dictOf es n) → RF c fz es fs → R c fz (.ref a) (.inst k fs)
  | dict {a : Addr} {es : Array DictEntry} {n : Nat} {xs : List (List Int × Addr × Value)} {ds : List (List Int × PV)} : fz a = some { cls := .type "dict", data := .dict es n } →
      (a == sysModules) = false → es.toList = xs.map (entryOfKey c.tk) → (∀ x ∈ xs, ∃ vs n, fz x.2.1 = some (tO vs n) ∧ ItemsAre (intKind c.prog c.w) x.1 vs) → (xs.map (·.1)).Nodup → RD c fz xs ds → R c fz (.ref a) (.dict ds)
  | mi {a C d : Addr} {k : Str} : c.mg k = some (.ref C) → fz a = some (instObj C d) → R c fz (.ref a) (.mi a k d)
  | rng {a : Addr} {lo hi st : Int} {t u v : Tok} : fz a = some { cls := .type "range", dict := none, data := .fields #[.int lo t, .int hi u, .int st v], slots := #[] } → R c fz (.ref a) (.rng lo hi st)
inductive RA (c : Cx) (fz : Led) : List Value → List PV → Prop
  | nil : RA c fz [] []
  | cons {v : Value} {p : PV} {vs : List Value} {ps : List PV} : R c fz v p → RA c fz vs ps → RA c fz (v :: vs) (p :: ps)
inductive RF (c : Cx) (fz : Led) : List DictEntry → List (Str × PV) → Prop
  | nil : RF c fz [] []
  | cons {h : Int} {x : Str} {t : Tok} {v : Value} {p : PV} {es : List DictEntry} {fs : List (Str × PV)} : R c fz v p → RF c fz es fs → RF c fz (⟨h, .str x t, v⟩ :: es) ((x, p) :: fs)
inductive RD (c : Cx) (fz : Led) : List (List Int × Addr × Value) → List (List Int × PV) → Prop
  | nil : RD c fz [] []
  | cons {k : List Int} {a : Addr} {v : Value} {p : PV} {xs : List (List Int × Addr × Value)} {ds : List (List Int × PV)} : R c fz v p → RD c fz xs ds → RD c fz ((k, a, v) :: xs) ((k, p) :: ds)
end

theorem R.mono {c : Cx} {f g : Led} (hs : Led.le f g) {v : Value} {p : PV} (h : R c f v p) : R c g v p :=
  R.rec (motive_1 := fun v p _ => R c g v p) (motive_2 := fun v p _ => RA c g v p) (motive_3 := fun v p _ => RF c g v p) (motive_4 := fun v p _ => RD c g v p)
    .none .bool .int .str .bytes .raw .ptr (fun h _ r => .list (hs _ _ h) r) (fun h _ r => .tuple (hs _ _ h) r) (fun k h h' _ r => .inst k (hs _ _ h) (hs _ _ h') r)
    (fun h l e k n _ r => .dict (hs _ _ h) l e (fun x hx => (k x hx).imp fun _ h => h.imp fun _ h => ⟨hs _ _ h.1, h.2⟩) n r) (fun k h => .mi k (hs _ _ h)) (fun h => .rng (hs _ _ h))
    .nil (fun _ _ a b => .cons a b) .nil (fun _ _ a b => .cons a b) .nil (fun _ _ a b => .cons a b) h
theorem RA.ind {c : Cx} {fz : Led} {P : List Value → List PV → Prop} {vs : List Value} {ps : List PV} (h : RA c fz vs ps) (h0 : P [] []) (h1 : ∀ {v p vs ps}, R c fz v p → RA c fz vs ps → P vs ps → P (v :: vs) (p :: ps)) : P vs ps :=
  RA.rec (motive_1 := fun _ _ _ => True) (motive_2 := fun v p _ => P v p) (motive_3 := fun _ _ _ => True) (motive_4 := fun _ _ _ => True) trivial (fun _ => trivial) (fun _ _ => trivial) (fun _ _ => trivial) (fun _ _ => trivial) (fun _ => trivial) (fun _ => trivial) (fun _ _ _ => trivial) (fun _ _ _ => trivial) (fun _ _ _ _ _ => trivial) (fun _ _ _ _ _ _ _ => trivial) (fun _ _ => trivial) (fun _ => trivial) h0 (fun a b _ i => h1 a b i) trivial (fun _ _ _ _ => trivial) trivial (fun _ _ _ _ => trivial) h
theorem RF.ind {c : Cx} {fz : Led} {P : List DictEntry → List (Str × PV) → Prop} {vs : List DictEntry} {ps : List (Str × PV)} (h : RF c fz vs ps) (h0 : P [] []) (h1 : ∀ {hh x t v p vs ps}, R c fz v p → RF c fz vs ps → P vs ps → P (⟨hh, .str x t, v⟩ :: vs) ((x, p) :: ps)) : P vs ps :=
  RF.rec (motive_1 := fun _ _ _ => True) (motive_2 := fun _ _ _ => True) (motive_3 := fun v p _ => P v p) (motive_4 := fun _ _ _ => True) trivial (fun _ => trivial) (fun _ _ => trivial) (fun _ _ => trivial) (fun _ _ => trivial) (fun _ => trivial) (fun _ => trivial) (fun _ _ _ => trivial) (fun _ _ _ => trivial) (fun _ _ _ _ _ => trivial) (fun _ _ _ _ _ _ _ => trivial) (fun _ _ => trivial) (fun _ => trivial) trivial (fun _ _ _ _ => trivial) h0 (fun a b _ i => h1 a b i) trivial (fun _ _ _ _ => trivial) h
theorem RD.ind {c : Cx} {fz : Led} {P : List (List Int × Addr × Value) → List (List Int × PV) → Prop} {vs : List (List Int × Addr × Value)} {ps : List (List Int × PV)} (h : RD c fz vs ps) (h0 : P [] []) (h1 : ∀ {k a v p vs ps}, R c fz v p → RD c fz vs ps → P vs ps → P ((k, a, v) :: vs) ((k, p) :: ps)) : P vs ps :=
  RD.rec (motive_1 := fun _ _ _ => True) (motive_2 := fun _ _ _ => True) (motive_3 := fun _ _ _ => True) (motive_4 := fun v p _ => P v p) trivial (fun _ => trivial) (fun _ _ => trivial) (fun _ _ => trivial) (fun _ _ => trivial) (fun _ => trivial) (fun _ => trivial) (fun _ _ _ => trivial) (fun _ _ _ => trivial) (fun _ _ _ _ _ => trivial) (fun _ _ _ _ _ _ _ => trivial) (fun _ _ => trivial) (fun _ => trivial) trivial (fun _ _ _ _ => trivial) trivial (fun _ _ _ _ => trivial) h0 (fun a b _ i => h1 a b i) h
theorem RA.mono {c : Cx} {f g : Led} (hs : Led.le f g) {v : List Value} {p : List PV} (h : RA c f v p) : RA c g v p := h.ind (P := RA c g) .nil fun a _ i => .cons (a.mono hs) i
theorem RF.mono {c : Cx} {f g : Led} (hs : Led.le f g) {v : List DictEntry} {p : List (Str × PV)} (h : RF c f v p) : RF c g v p := h.ind (P := RF c g) .nil fun a _ i => .cons (a.mono hs) i
theorem RD.mono {c : Cx} {f g : Led} (hs : Led.le f g) {v : List (List Int × Addr × Value)} {p : List (List Int × PV)} (h : RD c f v p) : RD c g v p := h.ind (P := RD c g) .nil fun a _ i => .cons (a.mono hs) i
theorem RA.consR {c : Cx} {fz : Led} {vs : List Value} {p : PV} {ps : List PV} (h : RA c fz vs (p :: ps)) : ∃ v ws, vs = v :: ws ∧ R c fz v p ∧ RA c fz ws ps :=
  h.ind (P := fun vs qs => qs = p :: ps → ∃ v ws, vs = v :: ws ∧ R c fz v p ∧ RA c fz ws ps) (fun e => nomatch e) (fun a b _ e => ⟨_, _, rfl, (List.cons.inj e).1 ▸ a, (List.cons.inj e).2 ▸ b⟩) rfl
theorem RA.nilR {c : Cx} {fz : Led} {vs : List Value} (h : RA c fz vs []) : vs = [] := h.ind (P := fun vs qs => qs = [] → vs = []) (fun _ => rfl) (fun _ _ _ e => nomatch e) rfl

noncomputable def RInv (c : Cx) (fz : Led) (v : Value) : PV → Prop
  | .none => v = .none
  | .bool b => v = .bool b
  | .int i => ∃ t, v = .int i t
  | .str x => ∃ t, v = .str x t
  | .bytes b => ∃ t, v = .bytes b t
  | .raw w => v = w
  | .ptr a => v = .ref a
  | .list l => ∃ a vs n, v = .ref a ∧ fz a = some (lO vs n) ∧ RA c fz vs l
  | .tuple l => ∃ a vs n, v = .ref a ∧ fz a = some (tO vs n) ∧ RA c fz vs l
  | .inst k fs => ∃ a C d es n, v = .ref a ∧ c.mg k = some (.ref C) ∧ fz a = some (instObj C d) ∧ fz d = some (dictOf es n) ∧ RF c fz es fs
  | .dict ds => ∃ a es n xs, v = .ref a ∧ fz a = some { cls := .type "dict", data := .dict es n } ∧ (a == sysModules) = false ∧ es.toList = xs.map (entryOfKey c.tk) ∧
      (∀ x ∈ xs, ∃ vs n, fz x.2.1 = some (tO vs n) ∧ ItemsAre (intKind c.prog c.w) x.1 vs) ∧ (xs.map (·.1)).Nodup ∧ RD c fz xs ds
  | .mi a k d => ∃ C, v = .ref a ∧ c.mg k = some (.ref C) ∧ fz a = some (instObj C d)
  | .rng lo hi st => ∃ a t u w, v = .ref a ∧ fz a = some { cls := .type "range", dict := none, data := .fields #[.int lo t, .int hi u, .int st w], slots := #[] }
theorem R.inv {c : Cx} {fz : Led} {v : Value} {p : PV} (h : R c fz v p) : RInv c fz v p :=
  h.casesOn (motive_1 := fun v p _ => RInv c fz v p) rfl (fun _ => rfl) (fun _ t => ⟨t, rfl⟩) (fun _ t => ⟨t, rfl⟩) (fun _ t => ⟨t, rfl⟩) (fun _ => rfl) (fun _ => rfl) (fun a b => ⟨_, _, _, rfl, a, b⟩) (fun a b => ⟨_, _, _, rfl, a, b⟩)
    (fun a b d e => ⟨_, _, _, _, _, rfl, a, b, d, e⟩) (fun a b d e f g => ⟨_, _, _, _, rfl, a, b, d, e, f, g⟩) (fun a b => ⟨_, rfl, a, b⟩) (fun a => ⟨_, _, _, _, rfl, a⟩)

section
variable {c : Cx} {f g : Led} {vs ws : List Value} {ps qs : List PV}
theorem RA.length (h : RA c f vs ps) : vs.length = ps.length := h.ind (P := fun vs ps => vs.length = ps.length) rfl fun _ _ i => congrArg Nat.succ i
theorem RA.append (h : RA c f vs ps) (k : RA c f ws qs) : RA c f (vs ++ ws) (ps ++ qs) := h.ind (P := fun vs ps => RA c f (vs ++ ws) (ps ++ qs)) k fun a _ i => .cons a i
theorem RA.get (h : RA c f vs ps) {k : Nat} {p : PV} (hk : ps[k]? = some p) : ∃ v, vs[k]? = some v ∧ R c f v p :=
  h.ind (P := fun vs ps => ∀ k, ps[k]? = some p → ∃ v, vs[k]? = some v ∧ R c f v p) (fun k e => ns List.getElem?_nil e) (fun a _ i k => Nat.casesOn k (fun e => ⟨_, rfl, Option.some.inj (List.getElem?_cons_zero.symm.trans e) ▸ a⟩) fun k e => i k (List.getElem?_cons_succ.symm.trans e)) k hk
theorem RA.set (h : RA c f vs ps) {k : Nat} {v : Value} {p : PV} (hp : R c f v p) : RA c f (vs.set k v) (ps.set k p) :=
  h.ind (P := fun vs ps => ∀ k, RA c f (vs.set k v) (ps.set k p)) (fun _ => .nil) (fun a r i k => Nat.casesOn k (.cons hp r) fun k => .cons a (i k)) k
theorem RA.take (h : RA c f vs ps) (k : Nat) : RA c f (vs.take k) (ps.take k) :=
  h.ind (P := fun vs ps => ∀ k, RA c f (vs.take k) (ps.take k)) (fun k => Nat.casesOn k .nil fun _ => .nil) (fun a _ i k => Nat.casesOn k .nil fun k => .cons a (i k)) k
theorem RA.drop (h : RA c f vs ps) (k : Nat) : RA c f (vs.drop k) (ps.drop k) :=
  h.ind (P := fun vs ps => ∀ k, RA c f (vs.drop k) (ps.drop k)) (fun k => Nat.casesOn k .nil fun _ => .nil) (fun a r i k => Nat.casesOn k (.cons a r) fun k => i k) k
end

inductive MObj where
  | list (l : List PV)
  | ns (fs : List (Str × PV))
  | dict (ds : List (List Int × PV))
  | exc (C : Addr) (t : Value) (d : Option Addr)

noncomputable abbrev xO (C : Addr) (t : Value) (d : Option Addr) : Obj := { cls := .ref C, dict := d, data := .fields #[t, .none, .none, .none, .bool false, .none] }
inductive RO (c : Cx) (fz : Led) : Addr → Obj → MObj → Prop
  | list {a : Addr} {vs : List Value} {n : Nat} {l : List PV} : RA c fz vs l → RO c fz a (lO vs n) (.list l)
  | ns {a : Addr} {es : List DictEntry} {n : Nat} {fs : List (Str × PV)} : RF c fz es fs → RO c fz a (dictOf es n) (.ns fs)
  | dict {a : Addr} {es : Array DictEntry} {n : Nat} {xs : List (List Int × Addr × Value)} {ds : List (List Int × PV)} :
      (a == sysModules) = false → es.toList = xs.map (entryOfKey c.tk) → (∀ x ∈ xs, ∃ vs n, fz x.2.1 = some (tO vs n) ∧ ItemsAre (intKind c.prog c.w) x.1 vs) → (xs.map (·.1)).Nodup → RD c fz xs ds → RO c fz a { cls := .type "dict", data := .dict es n } (.dict ds)
  | exc {a C : Addr} {t : Value} {d : Option Addr} : RO c fz a (xO C t d) (.exc C t d)
noncomputable def ROInv (c : Cx) (fz : Led) (a : Addr) (o : Obj) : MObj → Prop
  | .list l => ∃ vs n, o = lO vs n ∧ RA c fz vs l
  | .ns fs => ∃ es n, o = dictOf es n ∧ RF c fz es fs
  | .dict ds => ∃ es n xs, o = { cls := .type "dict", data := .dict es n } ∧ (a == sysModules) = false ∧ es.toList = xs.map (entryOfKey c.tk) ∧
      (∀ x ∈ xs, ∃ vs n, fz x.2.1 = some (tO vs n) ∧ ItemsAre (intKind c.prog c.w) x.1 vs) ∧ (xs.map (·.1)).Nodup ∧ RD c fz xs ds
  | .exc C t d => o = xO C t d
theorem RO.inv {c : Cx} {fz : Led} {a : Addr} {o : Obj} {p : MObj} (h : RO c fz a o p) : ROInv c fz a o p :=
  h.casesOn (motive := fun o p _ => ROInv c fz a o p) (fun b => ⟨_, _, rfl, b⟩) (fun b => ⟨_, _, rfl, b⟩) (fun a b d e f => ⟨_, _, _, rfl, a, b, d, e, f⟩) rfl
theorem RO.mono {c : Cx} {f g : Led} (hs : Led.le f g) {a : Addr} {o : Obj} {p : MObj} (h : RO c f a o p) : RO c g a o p :=
  h.casesOn (motive := fun o p _ => RO c g a o p) (fun r => .list (r.mono hs)) (fun r => .ns (r.mono hs)) (fun l e k n r => .dict l e (fun x hx => (k x hx).imp fun _ h => h.imp fun _ h => ⟨hs _ _ h.1, h.2⟩) n (r.mono hs)) .exc

noncomputable abbrev Mu := Addr → Option MObj
noncomputable abbrev Rho := List (Str × PV)

structure SimX (c : Cx) (X fz : Led) (μ : Mu) (s : Shared) : Prop where
  g : s.gens = c.g
  os : s.os = c.os
  base : ∀ b o, c.h₀.get? b = some o → X b = some o
  ex : ∀ b o, X b = some o → s.heap.get? b = some o
  ef : ∀ b o, fz b = some o → s.heap.get? b = some o
  mu : ∀ a mo, μ a = some mo → ∃ o, s.heap.get? a = some o ∧ RO c fz a o mo ∧ X a = none ∧ fz a = none
  xf : ∀ b o, X b = some o → fz b = none

structure SimE (c : Cx) (env : Env) (own : List Str) (X fz : Led) (ρ : Rho) (μ : Mu) (h : Heap) : Prop where
  ns : ∃ m, h.Ns env.locals m ∧ ∀ x v, env.kindOf x = some .local → ρ.lookup x = some v → ∃ r, m x = some r ∧ R c fz r v
  free : X env.locals = none ∧ fz env.locals = none ∧ μ env.locals = none
  cells : ∀ x v, (env.kindOf x = some .cell ∨ env.kindOf x = some .free) → ρ.lookup x = some v →
    ∃ a r, env.cells.lookup x = some a ∧ h.IsCell a (some r) ∧ R c fz r v
  bor : ∀ x, (env.kindOf x = some .cell ∨ env.kindOf x = some .free) → x ∉ own → ∃ a o, env.cells.lookup x = some a ∧ X a = some o
  ownd : ∀ x, x ∈ own → ∃ a, env.cells.lookup x = some a ∧ (∃ v, h.IsCell a v) ∧ X a = none ∧ fz a = none ∧ a ≠ env.locals ∧ μ a = none
  inj : ∀ x y a, x ∈ own → y ∈ own → env.cells.lookup x = some a → env.cells.lookup y = some a → x = y
  kind : ∀ x, x ∈ own → env.kindOf x = some .cell

structure SC where
  scope : Scope
  own : List Str

structure EnvOk (env : Env) (sc : SC) : Prop where
  scope : env.scope = sc.scope
  fn : sc.scope.kind = .function
  glob : env.globals = mainGlobals
  blt : env.builtins = builtinsNs

structure Sim (c : Cx) (env : Env) (sc : SC) (X fz : Led) (ρ : Rho) (μ : Mu) (s : Shared) : Prop where
  x : SimX c X fz μ s
  e : SimE c env sc.own X fz ρ μ s.heap
  ok : EnvOk env sc

noncomputable def Room (A : Around) (k : Nat) : Prop := A.handled = none ∧ A.depth + k ≤ 900 ∧ A.units + 20 * k ≤ 9000

theorem Room.le {A : Around} {k j : Nat} (h : Room A k) (hj : j ≤ k) : Room A j := ⟨h.1, Nat.le_trans (Nat.add_le_add_left hj _) h.2.1, Nat.le_trans (Nat.add_le_add_left (Nat.mul_le_mul_left 20 hj) _) h.2.2⟩
theorem Room.depth {A : Around} {k : Nat} (h : Room A k) : A.depth < recursionLimit := Nat.lt_of_le_of_lt (Nat.le_trans (Nat.le_add_right _ _) h.2.1) (by decide)
theorem Room.units1 {A : Around} {k : Nat} (h : Room A k) : A.units + 1 < cLine := Nat.lt_of_le_of_lt (Nat.succ_le_succ (Nat.le_trans (Nat.le_add_right _ _) h.2.2)) (by decide)
theorem Room.units {A : Around} {k : Nat} (h : Room A k) : A.units < cLine := Nat.lt_of_succ_lt h.units1
theorem Room.deeper {A : Around} {k : Nat} {env : Env} (h : Room A (k+1)) : Room (A.deeper env) k :=
  ⟨h.1, Nat.le_trans (Nat.le_of_eq (Nat.succ_add_eq_add_succ A.depth k)) h.2.1, Nat.le_trans (Nat.le_trans (Nat.le_of_eq (Nat.add_assoc A.units 3 (20 * k))) (Nat.add_le_add_left (Nat.le_trans (Nat.le_of_eq (Nat.add_comm 3 _)) (Nat.add_le_add_left (by decide : 3 ≤ 20) _)) _)) h.2.2⟩

section
variable {c : Cx} {env : Env} {sc : SC} {own : List Str} {X X' fz fz' : Led} {ρ ρ' : Rho} {μ μ' : Mu} {s s' : Shared} {h h' : Heap}

theorem Mu.fresh (S : SimX c X fz μ s) {a : Addr} (ha : s.heap.objs.size ≤ a) : μ a = none := by
  cases q : μ a with
  | none => rfl
  | some mo => obtain ⟨o, e, _⟩ := S.mu a mo q; exact absurd (Heap.lt_size e) (Nat.not_lt.mpr ha)
theorem Led.fresh {X : Led} {h : Heap} (H : ∀ b o, X b = some o → h.get? b = some o) {a : Addr} (ha : h.objs.size ≤ a) : X a = none := by
  cases q : X a with
  | none => rfl
  | some o => exact absurd (Heap.lt_size (H a o q)) (Nat.not_lt.mpr ha)

theorem SimX.muX (S : SimX c X fz μ s) {a : Addr} {mo : MObj} (e : μ a = some mo) : X a = none := (S.mu a mo e).elim fun _ p => p.2.2.1
theorem SimX.muF (S : SimX c X fz μ s) {a : Addr} {mo : MObj} (e : μ a = some mo) : fz a = none := (S.mu a mo e).elim fun _ p => p.2.2.2
theorem SimX.xm (S : SimX c X fz μ s) {a : Addr} {o : Obj} (e : X a = some o) : μ a = none := none_of fun _ q => ns (S.muX q) e
theorem SimE.ownAt (S : SimE c env own X fz ρ μ h) {x : Str} {a : Addr} (hx : x ∈ own) (e : env.cells.lookup x = some a) : (∃ v, h.IsCell a v) ∧ X a = none ∧ fz a = none ∧ a ≠ env.locals ∧ μ a = none :=
  (S.ownd x hx).elim fun b p => Option.some.inj (p.1.symm.trans e) ▸ p.2
theorem SimX.keep (S : SimX c X fz μ s) (hg : s'.gens = s.gens) (ho : s'.os = s.os) (hk : ∀ b o, s.heap.get? b = some o → s'.heap.get? b = some o) : SimX c X fz μ s' :=
  ⟨hg.trans S.g, ho.trans S.os, S.base, fun b o e => hk _ _ (S.ex b o e), fun b o e => hk _ _ (S.ef b o e), fun a mo e => (S.mu a mo e).elim fun o p => ⟨o, hk _ _ p.1, p.2⟩, S.xf⟩
theorem SimX.but (S : SimX c X fz μ s) {a : Addr} (hg : s'.gens = s.gens) (ho : s'.os = s.os) (hk : Heap.SameBut a s.heap s'.heap) (h1 : X a = none) (h2 : fz a = none) (h3 : μ a = none) : SimX c X fz μ s' :=
  ⟨hg.trans S.g, ho.trans S.os, S.base, fun b o e => (hk.2 b (nes h1 e)).trans (S.ex b o e), fun b o e => (hk.2 b (nes h2 e)).trans (S.ef b o e),
    fun b mo e => (S.mu b mo e).elim fun o p => ⟨o, (hk.2 b (nes h3 e)).trans p.1, p.2⟩, S.xf⟩

theorem SimE.keep (S : SimE c env own X fz ρ μ h) (hk : ∀ b o, h.get? b = some o → h'.get? b = some o) : SimE c env own X fz ρ μ h' :=
  ⟨S.ns.elim fun m p => ⟨m, p.1.keeps hk, p.2⟩, S.free, fun x v e q => (S.cells x v e q).elim fun a p => p.elim fun r p => ⟨a, r, p.1, p.2.1.keeps hk, p.2.2⟩, S.bor,
    fun x e => (S.ownd x e).elim fun a p => ⟨a, p.1, p.2.1.elim fun v p2 => ⟨v, p2.keeps hk⟩, p.2.2⟩, S.inj, S.kind⟩
theorem Sim.keep (S : Sim c env sc X fz ρ μ s) (hg : s'.gens = s.gens) (ho : s'.os = s.os) (hk : ∀ b o, s.heap.get? b = some o → s'.heap.get? b = some o) : Sim c env sc X fz ρ μ s' :=
  ⟨S.x.keep hg ho hk, S.e.keep hk, S.ok⟩
theorem Sim.toks (S : Sim c env sc X fz ρ μ s) (n : Nat) : Sim c env sc X fz ρ μ { s with toks := n } := S.keep rfl rfl fun _ _ e => e
theorem SimX.toks (S : SimX c X fz μ s) (n : Nat) : SimX c X fz μ { s with toks := n } := S.keep rfl rfl fun _ _ e => e

theorem SimX.fzUp (S : SimX c X fz μ s) (le : Led.le fz fz') (hf : ∀ b o, fz' b = some o → s.heap.get? b = some o) (hm : ∀ a mo, μ a = some mo → fz' a = none) (hxf : ∀ b o, X b = some o → fz' b = none) : SimX c X fz' μ s :=
  ⟨S.g, S.os, S.base, S.ex, hf, fun a mo e => (S.mu a mo e).elim fun o p => ⟨o, p.1, p.2.1.mono le, p.2.2.1, hm a mo e⟩, hxf⟩
theorem SimE.fzUp (S : SimE c env own X fz ρ μ h) (le : Led.le fz fz') (hL : fz' env.locals = none) (hC : ∀ x a, x ∈ own → env.cells.lookup x = some a → fz' a = none) : SimE c env own X fz' ρ μ h :=
  ⟨S.ns.elim fun m p => ⟨m, p.1, fun x v e q => (p.2 x v e q).elim fun r p => ⟨r, p.1, p.2.mono le⟩⟩, ⟨S.free.1, hL, S.free.2.2⟩, fun x v e q => (S.cells x v e q).elim fun a p => p.elim fun r p => ⟨a, r, p.1, p.2.1, p.2.2.mono le⟩, S.bor,
    fun x e => (S.ownd x e).elim fun a p => ⟨a, p.1, p.2.1, p.2.2.1, hC x a e p.1, p.2.2.2.2⟩, S.inj, S.kind⟩

noncomputable def Led.add (f : Led) (a : Addr) (o : Obj) : Led := fun b => if b = a then some o else f b
theorem Led.add_self (f : Led) (a : Addr) (o : Obj) : f.add a o a = some o := if_pos rfl
theorem Led.add_ne (f : Led) {a b : Addr} (o : Obj) (h : b ≠ a) : f.add a o b = f b := if_neg h
theorem Led.le_add {f : Led} {a : Addr} {o : Obj} (h : f a = none) : Led.le f (f.add a o) := fun b p e =>
  (f.add_ne o (nes h e)).trans e
theorem Led.add_none {f : Led} {a b : Addr} {o : Obj} (h : b ≠ a) (e : f b = none) : f.add a o b = none := (f.add_ne o h).trans e
theorem SimX.addF {a : Addr} {o : Obj} (S : SimX c X fz μ s) (ho : s.heap.get? a = some o) (h1 : X a = none) (h2 : fz a = none) (h3 : μ a = none) : SimX c X (fz.add a o) μ s :=
  S.fzUp (Led.le_add h2) (fun b q e => by
    by_cases hb : b = a
    · subst hb; exact ho.trans ((Led.add_self ..).symm.trans e)
    · exact S.ef b q ((Led.add_ne _ _ hb).symm.trans e)) (fun b mo e => Led.add_none (nes h3 e) (S.muF e)) fun b q e => Led.add_none (nes h1 e) (S.xf b q e)
theorem Sim.addF {a : Addr} {o : Obj} (S : Sim c env sc X fz ρ μ s) (ho : s.heap.get? a = some o) (h1 : X a = none) (h2 : fz a = none) (h3 : μ a = none) (h4 : a ≠ env.locals) (h5 : ∀ x ∈ sc.own, env.cells.lookup x ≠ some a) :
    Sim c env sc X (fz.add a o) ρ μ s :=
  ⟨S.x.addF ho h1 h2 h3, S.e.fzUp (Led.le_add h2) (Led.add_none (Ne.symm h4) S.e.free.2.1) fun y b hy e => Led.add_none (fun q => h5 y hy (q ▸ e)) (S.e.ownAt hy e).2.2.1, S.ok⟩
theorem SimX.push (S : SimX c X fz μ s) (o : Obj) (t : Nat) : SimX c X fz μ { s with heap := s.heap.push o, toks := t } := S.keep rfl rfl fun _ _ e => Heap.get?_push_of_some _ e
theorem SimX.pushF (S : SimX c X fz μ s) (o : Obj) (t : Nat) (hf : o.isFreed = false) : SimX c X (fz.add s.heap.objs.size o) μ { s with heap := s.heap.push o, toks := t } :=
  (S.push o t).addF (Heap.get?_push_size _ hf) (Led.fresh S.ex (Nat.le_refl _)) (Led.fresh S.ef (Nat.le_refl _)) (Mu.fresh S (Nat.le_refl _))
theorem SimE.lt_cells (S : SimE c env own X fz ρ μ h) {x : Str} {a : Addr} (hx : x ∈ own) (e : env.cells.lookup x = some a) : a < h.objs.size := (S.ownAt hx e).1.elim fun _ q => q.lt
theorem SimE.lt_loc (S : SimE c env own X fz ρ μ h) : env.locals < h.objs.size := S.ns.elim fun _ a => a.1.lt
theorem Sim.push (S : Sim c env sc X fz ρ μ s) (o : Obj) (t : Nat) : Sim c env sc X fz ρ μ { s with heap := s.heap.push o, toks := t } := S.keep rfl rfl fun _ _ e => Heap.get?_push_of_some _ e
theorem Sim.pushF (S : Sim c env sc X fz ρ μ s) (o : Obj) (t : Nat) (hf : o.isFreed = false) : Sim c env sc X (fz.add s.heap.objs.size o) ρ μ { s with heap := s.heap.push o, toks := t } :=
  (S.push o t).addF (Heap.get?_push_size _ hf) (Led.fresh S.x.ex (Nat.le_refl _)) (Led.fresh S.x.ef (Nat.le_refl _)) (Mu.fresh S.x (Nat.le_refl _)) (Nat.ne_of_gt S.e.lt_loc) fun x hx e => Nat.lt_irrefl _ (S.e.lt_cells hx e)

noncomputable def Mu.set (μ : Mu) (a : Addr) (m : MObj) : Mu := fun b => if b = a then some m else μ b
theorem Mu.set_self (f : Mu) (a : Addr) (o : MObj) : f.set a o a = some o := if_pos rfl
theorem Mu.set_ne (f : Mu) {a b : Addr} (o : MObj) (h : b ≠ a) : f.set a o b = f b := if_neg h
noncomputable def Mu.del (μ : Mu) (a : Addr) : Mu := fun b => if b = a then none else μ b
theorem Mu.del_self (f : Mu) (a : Addr) : f.del a a = none := if_pos rfl
theorem Mu.del_ne (f : Mu) {a b : Addr} (h : b ≠ a) : f.del a b = f b := if_neg h

theorem SimX.setμ (S : SimX c X fz μ s) {a : Addr} {o : Obj} {m : MObj} (hg : s'.gens = s.gens) (ho : s'.os = s.os) (hk : ∀ b o, b ≠ a → s.heap.get? b = some o → s'.heap.get? b = some o)
    (e : s'.heap.get? a = some o) (r : RO c fz a o m) (h1 : X a = none) (h2 : fz a = none) : SimX c X fz (μ.set a m) s' :=
  ⟨hg.trans S.g, ho.trans S.os, S.base, fun b o q => hk b o (nes h1 q) (S.ex b o q), fun b o q => hk b o (nes h2 q) (S.ef b o q),
    fun b mo q => by
      by_cases hb : b = a
      · subst hb; exact ⟨o, e, Option.some.inj ((Mu.set_self ..).symm.trans q) ▸ r, h1, h2⟩
      · exact (S.mu b mo ((Mu.set_ne _ _ hb).symm.trans q)).elim fun o' p => ⟨o', hk b o' hb p.1, p.2⟩, S.xf⟩
theorem SimE.cell_ne (S : SimE c env own X fz ρ μ h) {x : Str} {a b : Addr} (hk : env.kindOf x = some .cell ∨ env.kindOf x = some .free) (e : env.cells.lookup x = some a) (hX : X b = none)
    (hC : ∀ y b', y ∈ own → env.cells.lookup y = some b' → b' ≠ b) : a ≠ b := by
  by_cases hx : x ∈ own
  · exact hC x a hx e
  · obtain ⟨a', o, p, q⟩ := S.bor x hk hx
    exact nes hX (Option.some.inj (p.symm.trans e) ▸ q)
theorem Sim.relocal {s' : Shared} {m : Str → Option Value} (S : Sim c env sc X fz ρ μ s) (hg : s'.gens = s.gens) (ho : s'.os = s.os) (hk : ∀ b o, b ≠ env.locals → s.heap.get? b = some o → s'.heap.get? b = some o) (hn : s'.heap.Ns env.locals m)
    (hm : ∀ x v, env.kindOf x = some .local → ρ'.lookup x = some v → ∃ r, m x = some r ∧ R c fz r v) (hc : ∀ x v, (env.kindOf x = some .cell ∨ env.kindOf x = some .free) → ρ'.lookup x = some v → ρ.lookup x = some v) : Sim c env sc X fz ρ' μ s' :=
  ⟨⟨hg.trans S.x.g, ho.trans S.x.os, S.x.base, fun b o e => hk b o (nes S.e.free.1 e) (S.x.ex b o e), fun b o e => hk b o (nes S.e.free.2.1 e) (S.x.ef b o e), fun a mo e => (S.x.mu a mo e).elim fun o p => ⟨o, hk a o (nes S.e.free.2.2 e) p.1, p.2⟩, S.x.xf⟩,
    ⟨⟨m, hn, hm⟩, S.e.free, fun x v e q => (S.e.cells x v e (hc x v e q)).elim fun a p => p.elim fun r p => ⟨a, r, p.1, p.2.1.elim fun o p1 => ⟨o, hk a o (S.e.cell_ne e p.1 S.e.free.1 fun y b hy hb => (S.e.ownAt hy hb).2.2.2.1) p1.1, p1.2⟩, p.2.2⟩, S.e.bor,
      fun x hx => (S.e.ownd x hx).elim fun a p => ⟨a, p.1, p.2.1.elim fun v p1 => p1.elim fun o p2 => ⟨v, o, hk a o p.2.2.2.2.1 p2.1, p2.2⟩, p.2.2⟩, S.e.inj, S.e.kind⟩, S.ok⟩
theorem SimE.setμ (S : SimE c env own X fz ρ μ h) {a : Addr} {m : MObj} (hk : ∀ b o, b ≠ a → h.get? b = some o → h'.get? b = some o) (hL : env.locals ≠ a)
    (hX : X a = none) (hC : ∀ x b, x ∈ own → env.cells.lookup x = some b → b ≠ a) : SimE c env own X fz ρ (μ.set a m) h' :=
  have hne := fun x a' e p => S.cell_ne (b := a) (x := x) (a := a') e p hX hC
  ⟨S.ns.elim fun m p => ⟨m, p.1.elim fun o p1 => p1.elim fun es p2 => p2.elim fun ep p3 => ⟨o, es, ep, hk _ _ hL p3.1, p3.2⟩, p.2⟩, ⟨S.free.1, S.free.2.1, (Mu.set_ne _ _ hL).trans S.free.2.2⟩,
    fun x v e q => (S.cells x v e q).elim fun b' p => p.elim fun r p => ⟨b', r, p.1, p.2.1.elim fun o p1 => ⟨o, hk _ _ (hne x b' e p.1) p1.1, p1.2⟩, p.2.2⟩, S.bor,
    fun x e => (S.ownd x e).elim fun b' p => ⟨b', p.1, p.2.1.elim fun v p1 => p1.elim fun o p2 => ⟨v, o, hk _ _ (hC x b' e p.1) p2.1, p2.2⟩, p.2.2.1, p.2.2.2.1, p.2.2.2.2.1, (Mu.set_ne _ _ (hC x b' e p.1)).trans p.2.2.2.2.2⟩, S.inj, S.kind⟩
theorem Sim.newμ (S : Sim c env sc X fz ρ μ s) {o : Obj} {m : MObj} (t : Nat) (hf : o.isFreed = false) (r : RO c fz s.heap.objs.size o m) : Sim c env sc X fz ρ (μ.set s.heap.objs.size m) { s with heap := s.heap.push o, toks := t } :=
  ⟨S.x.setμ rfl rfl (fun b o' _ e => Heap.get?_push_of_some _ e) (Heap.get?_push_size _ hf) r (Led.fresh S.x.ex (Nat.le_refl _)) (Led.fresh S.x.ef (Nat.le_refl _)),
    S.e.setμ (fun b o' _ e => Heap.get?_push_of_some _ e) (Nat.ne_of_lt S.e.lt_loc) (Led.fresh S.x.ex (Nat.le_refl _)) (fun x b hx e => Nat.ne_of_lt (S.e.lt_cells hx e)), S.ok⟩
theorem Sim.putμ (S : Sim c env sc X fz ρ μ s) {a : Addr} {o : Obj} {m m₀ : MObj} (ha : μ a = some m₀) (hg : s'.gens = s.gens) (ho : s'.os = s.os)
    (hk : ∀ b o, b ≠ a → s.heap.get? b = some o → s'.heap.get? b = some o) (e : s'.heap.get? a = some o) (r : RO c fz a o m) : Sim c env sc X fz ρ (μ.set a m) s' :=
  ⟨S.x.setμ hg ho hk e r (S.x.muX ha) (S.x.muF ha), S.e.setμ hk (nes (f := μ) S.e.free.2.2 ha).symm (S.x.muX ha) (fun x b hx e' => (nes (f := μ) (S.e.ownAt hx e').2.2.2.2 ha).symm), S.ok⟩
theorem SimX.putμ (S : SimX c X fz μ s) {a : Addr} {o : Obj} {m m₀ : MObj} (ha : μ a = some m₀) (hg : s'.gens = s.gens) (ho : s'.os = s.os)
    (hk : ∀ b o, b ≠ a → s.heap.get? b = some o → s'.heap.get? b = some o) (e : s'.heap.get? a = some o) (r : RO c fz a o m) : SimX c X fz (μ.set a m) s' := S.setμ hg ho hk e r (S.muX ha) (S.muF ha)

noncomputable def Rho.le (ρ' ρ : Rho) : Prop := ∀ x v, ρ'.lookup x = some v → ρ.lookup x = some v
noncomputable def Mu.le (μ' μ : Mu) : Prop := ∀ a m, μ' a = some m → μ a = some m
theorem Mu.le.refl (f : Mu) : Mu.le f f := fun _ _ h => h
theorem Mu.le.trans {f g k : Mu} (a : Mu.le f g) (b : Mu.le g k) : Mu.le f k := fun _ _ h => b _ _ (a _ _ h)
theorem Mu.none_of_le {f g : Mu} (h : Mu.le f g) {a : Addr} (e : g a = none) : f a = none := none_of fun m q => ns e (h a m q)
theorem SimX.weak (S : SimX c X fz μ s) (hm : Mu.le μ' μ) : SimX c X fz μ' s := ⟨S.g, S.os, S.base, S.ex, S.ef, fun a mo e => S.mu a mo (hm a mo e), S.xf⟩
theorem Sim.weak (S : Sim c env sc X fz ρ μ s) (hr : Rho.le ρ' ρ) (hm : Mu.le μ' μ) : Sim c env sc X fz ρ' μ' s :=
  ⟨S.x.weak hm, ⟨S.e.ns.elim fun m p => ⟨m, p.1, fun x v e q => p.2 x v e (hr x v q)⟩, ⟨S.e.free.1, S.e.free.2.1, Mu.none_of_le hm S.e.free.2.2⟩, fun x v e q => S.e.cells x v e (hr x v q), S.e.bor,
    fun x e => (S.e.ownd x e).elim fun a p => ⟨a, p.1, p.2.1, p.2.2.1, p.2.2.2.1, p.2.2.2.2.1, Mu.none_of_le hm p.2.2.2.2.2⟩, S.e.inj, S.e.kind⟩, S.ok⟩
theorem Mu.del_le (μ : Mu) (a : Addr) : Mu.le (μ.del a) μ := fun b mo e => by
  by_cases hb : b = a
  · subst hb; exact ns (μ.del_self b) e
  · exact (μ.del_ne hb).symm.trans e

theorem SimX.freeze (S : SimX c X fz μ s) {a : Addr} {o : Obj} {m : MObj} (ha : μ a = some m) (ho : s.heap.get? a = some o) : SimX c X (fz.add a o) (μ.del a) s :=
  (S.weak (Mu.del_le μ a)).addF ho (S.muX ha) (S.muF ha) (μ.del_self a)
theorem Sim.freeze (S : Sim c env sc X fz ρ μ s) {a : Addr} {o : Obj} {m : MObj} (ha : μ a = some m) (ho : s.heap.get? a = some o) : Sim c env sc X (fz.add a o) ρ (μ.del a) s :=
  (S.weak (ρ' := ρ) (fun _ _ e => e) (Mu.del_le μ a)).addF ho (S.x.muX ha) (S.x.muF ha) (μ.del_self a) (nes S.e.free.2.2 ha) fun x hx e => ns (S.e.ownAt hx e).2.2.2.2 ha
theorem Sim.lessX {s₀ : Shared} {fz₀ : Led} {ρ₀ : Rho} {μ₀ : Mu} (S₀ : Sim c env sc X fz₀ ρ₀ μ₀ s₀) (S : Sim c env sc X' fz ρ μ s) (le : Led.le X X') : Sim c env sc X fz ρ μ s :=
  have nn : ∀ {a : Addr}, X' a = none → X a = none := fun {a} e => none_of fun o q => ns e (le _ _ q)
  ⟨⟨S.x.g, S.x.os, S₀.x.base, fun b o e => S.x.ex b o (le _ _ e), S.x.ef, fun a mo e => (S.x.mu a mo e).elim fun o p => ⟨o, p.1, p.2.1, nn p.2.2.1, p.2.2.2⟩, fun b o e => S.x.xf b o (le _ _ e)⟩,
    ⟨S.e.ns, ⟨nn S.e.free.1, S.e.free.2⟩, S.e.cells, S₀.e.bor, fun x e => (S.e.ownd x e).elim fun a p => ⟨a, p.1, p.2.1, nn p.2.2.1, p.2.2.2⟩, S.e.inj, S.e.kind⟩, S.ok⟩
theorem Sim.moreX (S : Sim c env sc X fz ρ μ s) (le : Led.le X X') (hx : ∀ b o, X' b = some o → s.heap.get? b = some o) (hL : X' env.locals = none) (hC : ∀ x a, x ∈ sc.own → env.cells.lookup x = some a → X' a = none)
    (hm : ∀ a mo, μ a = some mo → X' a = none) (hxf : ∀ b o, X' b = some o → fz b = none) : Sim c env sc X' fz ρ μ s :=
  ⟨⟨S.x.g, S.x.os, fun b o e => le _ _ (S.x.base b o e), hx, S.x.ef, fun a mo e => let ⟨o, p, q, r, t⟩ := S.x.mu a mo e; ⟨o, p, q, hm a mo e, t⟩, hxf⟩,
    ⟨S.e.ns, ⟨hL, S.e.free.2⟩, S.e.cells, fun x e q => (S.e.bor x e q).elim fun a p => p.elim fun o p => ⟨a, o, p.1, le _ _ p.2⟩, fun x e => (S.e.ownd x e).elim fun a p => ⟨a, p.1, p.2.1, hC x a e p.1, p.2.2.2⟩, S.e.inj, S.e.kind⟩, S.ok⟩
noncomputable def rest (h : Heap) (fz : Led) (μ : Mu) : Led := fun b => match μ b, fz b with | none, none => h.get? b | _, _ => none
theorem rest_some {b : Addr} {o : Obj} (e : rest h fz μ b = some o) : h.get? b = some o ∧ μ b = none ∧ fz b = none := by
  unfold rest at e
  split at e
  · rename_i h1 h2; exact ⟨e, h1, h2⟩
  · cases e
theorem rest_of {b : Addr} {o : Obj} (e : h.get? b = some o) (h1 : μ b = none) (h2 : fz b = none) : rest h fz μ b = some o := by unfold rest; rw [h1, h2]; exact e
open Classical in
noncomputable def others (env : Env) (own : List Str) (h : Heap) (fz : Led) (μ : Mu) : Led := fun b => if b = env.locals ∨ (∃ x ∈ own, env.cells.lookup x = some b) then none else rest h fz μ b
theorem others_some {b : Addr} {o : Obj} (e : others env own h fz μ b = some o) : b ≠ env.locals ∧ (∀ x ∈ own, env.cells.lookup x ≠ some b) ∧ rest h fz μ b = some o := by
  unfold others at e
  split at e
  · cases e
  · rename_i q
    exact ⟨fun p => q (.inl p), fun x hx p => q (.inr ⟨x, hx, p⟩), e⟩
theorem others_of {b : Addr} {o : Obj} (h1 : b ≠ env.locals) (h2 : ∀ x ∈ own, env.cells.lookup x ≠ some b) (e : rest h fz μ b = some o) : others env own h fz μ b = some o := by
  unfold others
  rw [if_neg]; exact e
  rintro (p | ⟨x, hx, p⟩)
  · exact h1 p
  · exact h2 x hx p
theorem SimX.le_rest (S : SimX c X fz μ s) : Led.le X (rest s.heap fz μ) := fun b o e => rest_of (S.ex b o e) (S.xm e) (S.xf b o e)
theorem Sim.le_others (S : Sim c env sc X fz ρ μ s) : Led.le X (others env sc.own s.heap fz μ) := fun b o e => others_of (nes S.e.free.1 e) (fun x hx p => ns (S.e.ownAt hx p).2.1 e) (S.x.le_rest b o e)
theorem Sim.all (S : Sim c env sc X fz ρ μ s) : Sim c env sc (others env sc.own s.heap fz μ) fz ρ μ s :=
  S.moreX S.le_others (fun b o e => (rest_some (others_some e).2.2).1)
    (none_of fun o q => (others_some q).1 rfl)
    (fun x a hx p => none_of fun o q => (others_some q).2.1 x hx p)
    (fun a mo e => none_of fun o q => ns (rest_some (others_some q).2.2).2.1 e)
    (fun b o e => (rest_some (others_some e).2.2).2.2)
theorem SimX.all (S : SimX c X fz μ s) : SimX c (rest s.heap fz μ) fz μ s :=
  ⟨S.g, S.os, fun b o e => S.le_rest b o (S.base b o e), fun b o e => (rest_some e).1, S.ef, fun a mo e => (S.mu a mo e).elim fun o p => ⟨o, p.1, p.2.1, none_of fun o' z => ns (rest_some z).2.1 e, p.2.2.2⟩, fun b o e => (rest_some e).2.2⟩
theorem SimX.lessX (S : SimX c X' fz μ s) (le : Led.le X X') (hb : ∀ b o, c.h₀.get? b = some o → X b = some o) : SimX c X fz μ s :=
  ⟨S.g, S.os, hb, fun b o e => S.ex b o (le _ _ e), S.ef, fun a mo e => (S.mu a mo e).elim fun o p => ⟨o, p.1, p.2.1, none_of fun o' z => ns p.2.2.1 (le _ _ z), p.2.2.2⟩, fun b o e => S.xf b o (le _ _ e)⟩
theorem Sim.after (S : Sim c env sc X fz ρ μ s) (S' : SimX c (rest s.heap fz μ) fz' μ' s') (le : Led.le fz fz') : Sim c env sc X fz' ρ μ' s' := by
  have kept : ∀ {a o}, μ a = none → fz a = none → s.heap.get? a = some o → s'.heap.get? a = some o := fun h1 h2 e => S'.ex _ _ (rest_of e h1 h2)
  have cellz : ∀ {x a}, (env.kindOf x = some .cell ∨ env.kindOf x = some .free) → env.cells.lookup x = some a → μ a = none ∧ fz a = none := fun {x a} hk e => by
    by_cases hx : x ∈ sc.own
    · exact ⟨(S.e.ownAt hx e).2.2.2.2, (S.e.ownAt hx e).2.2.1⟩
    · exact (S.e.bor x hk hx).elim fun a' p => p.elim fun o p => Option.some.inj (p.1.symm.trans e) ▸ (rest_some (S.x.le_rest _ _ p.2)).2
  obtain ⟨m, ⟨o, es, ep, ho, r⟩, hm⟩ := S.e.ns
  have hoL : rest s.heap fz μ env.locals = some o := rest_of ho S.e.free.2.2 S.e.free.2.1
  exact ⟨S'.lessX S.x.le_rest S.x.base, ⟨⟨m, ⟨o, es, ep, S'.ex _ _ hoL, r⟩, fun x v e q => (hm x v e q).elim fun r p => ⟨r, p.1, p.2.mono le⟩⟩, ⟨S.e.free.1, S'.xf _ _ hoL, S'.xm hoL⟩,
    fun x v e q => (S.e.cells x v e q).elim fun a p => p.elim fun r p => ⟨a, r, p.1, p.2.1.elim fun o p2 => ⟨o, kept (cellz e p.1).1 (cellz e p.1).2 p2.1, p2.2⟩, p.2.2.mono le⟩, S.e.bor,
    fun x hx => (S.e.ownd x hx).elim fun a p => p.2.1.elim fun v p2 => p2.elim fun o p2 => have z := rest_of (h := s.heap) p2.1 p.2.2.2.2.2 p.2.2.2.1; ⟨a, p.1, ⟨v, o, S'.ex _ _ z, p2.2⟩, p.2.2.1, S'.xf _ _ z, p.2.2.2.2.1, S'.xm z⟩, S.e.inj, S.e.kind⟩, S.ok⟩
theorem Sim.keepNe (S : Sim c env sc X fz ρ μ s) {a : Addr} (hg : s'.gens = s.gens) (ho : s'.os = s.os) (hk : ∀ b o, b ≠ a → s.heap.get? b = some o → s'.heap.get? b = some o)
    (h1 : X a = none) (h2 : fz a = none) (h3 : μ a = none) (h4 : a ≠ env.locals) (h5 : ∀ x ∈ sc.own, env.cells.lookup x ≠ some a) : Sim c env sc X fz ρ μ s' :=
  ⟨⟨hg.trans S.x.g, ho.trans S.x.os, S.x.base, fun b o e => hk b o (nes h1 e) (S.x.ex b o e), fun b o e => hk b o (nes h2 e) (S.x.ef b o e), fun b mo e => (S.x.mu b mo e).elim fun o p => ⟨o, hk b o (nes h3 e) p.1, p.2⟩, S.x.xf⟩,
    ⟨S.e.ns.elim fun m p => ⟨m, p.1.elim fun o p1 => p1.elim fun es p2 => p2.elim fun ep p3 => ⟨o, es, ep, hk _ _ (Ne.symm h4) p3.1, p3.2⟩, p.2⟩, S.e.free,
      fun x v e q => (S.e.cells x v e q).elim fun b p => p.elim fun r p => ⟨b, r, p.1, p.2.1.elim fun o p1 => ⟨o, hk _ _ (S.e.cell_ne e p.1 h1 fun y b' hy hb z => h5 y hy (z ▸ hb)) p1.1, p1.2⟩, p.2.2⟩, S.e.bor,
      fun x hx => (S.e.ownd x hx).elim fun b p => ⟨b, p.1, p.2.1.elim fun v p1 => p1.elim fun o p2 => ⟨v, o, hk _ _ (fun z => h5 x hx (z ▸ p.1)) p2.1, p2.2⟩, p.2.2⟩, S.e.inj, S.e.kind⟩, S.ok⟩
end
noncomputable abbrev Cx.M (c : Cx) : Model := model c.prog c.w
inductive PE (c : Cx) (env : Env) (sc : SC) (X fz : Led) (ρ : Rho) (Q : PV → Mu → Prop) (v : Value) (s' : Shared) : Prop
  | mk (pv : PV) (μ' : Mu) (fz' : Led) : Q pv μ' → R c fz' v pv → Led.le fz fz' → Sim c env sc X fz' ρ μ' s' → PE c env sc X fz ρ Q v s'
inductive PT (c : Cx) (env : Env) (sc : SC) (X fz : Led) (ρ : Rho) (Q : Bool → Mu → Prop) (v : Bool) (s' : Shared) : Prop
  | mk (μ' : Mu) (fz' : Led) : Q v μ' → Led.le fz fz' → Sim c env sc X fz' ρ μ' s' → PT c env sc X fz ρ Q v s'
inductive PEs (c : Cx) (env : Env) (sc : SC) (X fz : Led) (ρ : Rho) (Q : List PV → Mu → Prop) (v : List Value) (s' : Shared) : Prop
  | mk (pv : List PV) (μ' : Mu) (fz' : Led) : Q pv μ' → RA c fz' v pv → Led.le fz fz' → Sim c env sc X fz' ρ μ' s' → PEs c env sc X fz ρ Q v s'

noncomputable def WE (c : Cx) (k : Nat) (sc : SC) (ρ : Rho) (μ : Mu) (e : Expr) (Q : PV → Mu → Prop) : Prop :=
  ∀ (A : Around) (env : Env) (X fz : Led) (s : Shared) (E : Value → Shared → Prop), Room A k → Sim c env sc X fz ρ μ s → wpAny c.M A (eval e env) (PE c env sc X fz ρ Q) E s
noncomputable def WT (c : Cx) (k : Nat) (sc : SC) (ρ : Rho) (μ : Mu) (e : Expr) (Q : Bool → Mu → Prop) : Prop :=
  ∀ (A : Around) (env : Env) (X fz : Led) (s : Shared) (E : Value → Shared → Prop), Room A k → Sim c env sc X fz ρ μ s → wpAny c.M A (isTrue e env (eval e env)) (PT c env sc X fz ρ Q) E s
noncomputable def WEs (c : Cx) (k : Nat) (sc : SC) (ρ : Rho) (μ : Mu) (es : List Expr) (Q : List PV → Mu → Prop) : Prop :=
  ∀ (A : Around) (env : Env) (X fz : Led) (s : Shared) (E : Value → Shared → Prop) (pos : Pos), Room A k → Sim c env sc X fz ρ μ s → wpAny c.M A (spliced (backTo pos (starEach es env))) (PEs c env sc X fz ρ Q) E s
noncomputable def WO (c : Cx) (k : Nat) (t : List Value → Sem Value) (ps : List PV) (μ : Mu) (Q : PV → Mu → Prop) : Prop :=
  ∀ (A : Around) (env : Env) (sc : SC) (ρ : Rho) (X fz : Led) (s : Shared) (E : Value → Shared → Prop) (vs : List Value), Room A k → RA c fz vs ps → Sim c env sc X fz ρ μ s → wpAny c.M A (t vs) (PE c env sc X fz ρ Q) E s

noncomputable abbrev t1 (f : Value → Sem Value) (vs : List Value) : Sem Value := match vs with | [a] => f a | _ => f .none
noncomputable abbrev t2 (f : Value → Value → Sem Value) (vs : List Value) : Sem Value := match vs with | [a, b] => f a b | _ => f .none .none
noncomputable abbrev t3 (f : Value → Value → Value → Sem Value) (vs : List Value) : Sem Value := match vs with | [a, b, d] => f a b d | _ => f .none .none .none

theorem RA.inv1 {c : Cx} {fz : Led} {vs : List Value} {a : PV} (h : RA c fz vs [a]) : ∃ v, vs = [v] ∧ R c fz v a :=
  h.consR.elim fun v p => p.elim fun _ p => ⟨v, p.1.trans (congrArg _ p.2.2.nilR), p.2.1⟩
theorem RA.inv2 {c : Cx} {fz : Led} {vs : List Value} {a b : PV} (h : RA c fz vs [a, b]) : ∃ v w, vs = [v, w] ∧ R c fz v a ∧ R c fz w b :=
  h.consR.elim fun v p => p.elim fun _ p => p.2.2.inv1.elim fun w q => ⟨v, w, p.1.trans (congrArg _ q.1), p.2.1, q.2⟩
theorem RA.inv3 {c : Cx} {fz : Led} {vs : List Value} {a b d : PV} (h : RA c fz vs [a, b, d]) : ∃ v w x, vs = [v, w, x] ∧ R c fz v a ∧ R c fz w b ∧ R c fz x d :=
  h.consR.elim fun v p => p.elim fun _ p => p.2.2.inv2.elim fun w q => q.elim fun x q => ⟨v, w, x, p.1.trans (congrArg _ q.1), p.2.1, q.2⟩

section
variable {c : Cx} {k : Nat} {sc : SC} {ρ : Rho} {μ : Mu} {env : Env} {X fz fz₁ : Led} {s : Shared} {A : Around} {E : Value → Shared → Prop}

theorem PE.up {Q : PV → Mu → Prop} {v : Value} (le : Led.le fz fz₁) (h : PE c env sc X fz₁ ρ Q v s) : PE c env sc X fz ρ Q v s :=
  let ⟨p, m, f, a, b, d, e⟩ := h; ⟨p, m, f, a, b, le.trans d, e⟩
theorem PT.up {Q : Bool → Mu → Prop} {v : Bool} (le : Led.le fz fz₁) (h : PT c env sc X fz₁ ρ Q v s) : PT c env sc X fz ρ Q v s :=
  let ⟨m, f, a, d, e⟩ := h; ⟨m, f, a, le.trans d, e⟩
theorem PEs.up {Q : List PV → Mu → Prop} {v : List Value} (le : Led.le fz fz₁) (h : PEs c env sc X fz₁ ρ Q v s) : PEs c env sc X fz ρ Q v s :=
  let ⟨p, m, f, a, b, d, e⟩ := h; ⟨p, m, f, a, b, le.trans d, e⟩
theorem Sim.pe {Q : PV → Mu → Prop} {v : Value} {pv : PV} (S : Sim c env sc X fz ρ μ s) (hr : R c fz v pv) (hq : Q pv μ) : PE c env sc X fz ρ Q v s := ⟨pv, μ, fz, hq, hr, .refl _, S⟩

theorem WE.mono {e : Expr} {Q Q' : PV → Mu → Prop} (h : WE c k sc ρ μ e Q) (hq : ∀ v m, Q v m → Q' v m) : WE c k sc ρ μ e Q' :=
  fun A env X fz s E r S => wpAny_mono (h A env X fz s E r S) (fun v s' ⟨p, m, f, a, b, d, e⟩ => ⟨p, m, f, hq _ _ a, b, d, e⟩) fun _ _ x => x
theorem WT.mono {e : Expr} {Q Q' : Bool → Mu → Prop} (h : WT c k sc ρ μ e Q) (hq : ∀ v m, Q v m → Q' v m) : WT c k sc ρ μ e Q' :=
  fun A env X fz s E r S => wpAny_mono (h A env X fz s E r S) (fun v s' ⟨m, f, a, d, e⟩ => ⟨m, f, hq _ _ a, d, e⟩) fun _ _ x => x
theorem WO.mono {t : List Value → Sem Value} {ps : List PV} {Q Q' : PV → Mu → Prop} (h : WO c k t ps μ Q) (hq : ∀ v m, Q v m → Q' v m) : WO c k t ps μ Q' :=
  fun A env sc ρ X fz s E vs r ra S => wpAny_mono (h A env sc ρ X fz s E vs r ra S) (fun v s' ⟨p, m, f, a, b, d, e⟩ => ⟨p, m, f, hq _ _ a, b, d, e⟩) fun _ _ x => x
theorem WE.le {e : Expr} {Q : PV → Mu → Prop} {j : Nat} (h : WE c j sc ρ μ e Q) (hj : j ≤ k) : WE c k sc ρ μ e Q := fun A env X fz s E r S => h A env X fz s E (r.le hj) S
theorem WO.le {t : List Value → Sem Value} {ps : List PV} {Q : PV → Mu → Prop} {j : Nat} (h : WO c j t ps μ Q) (hj : j ≤ k) : WO c k t ps μ Q := fun A env sc ρ X fz s E vs r ra S => h A env sc ρ X fz s E vs (r.le hj) ra S

theorem WE.use {e : Expr} {Q₁ : PV → Mu → Prop} {P : Value → Shared → Prop} (h : WE c k sc ρ μ e Q₁) (S : Sim c env sc X fz ρ μ s) (r : Room A k)
    (hf : ∀ v pv μ' fz' s', Q₁ pv μ' → R c fz' v pv → Led.le fz fz' → Sim c env sc X fz' ρ μ' s' → P v s') : wpAny c.M A (eval e env) P E s :=
  wpAny_mono (h A env X fz s E r S) (fun v s' ⟨p, m, f', a, b, d, e⟩ => hf v p m f' s' a b d e) fun _ _ x => x
theorem WT.use {e : Expr} {Q₁ : Bool → Mu → Prop} {P : Bool → Shared → Prop} (h : WT c k sc ρ μ e Q₁) (S : Sim c env sc X fz ρ μ s) (r : Room A k)
    (hf : ∀ v μ' fz' s', Q₁ v μ' → Led.le fz fz' → Sim c env sc X fz' ρ μ' s' → P v s') : wpAny c.M A (isTrue e env (eval e env)) P E s :=
  wpAny_mono (h A env X fz s E r S) (fun v s' ⟨m, f', a, d, e⟩ => hf v m f' s' a d e) fun _ _ x => x
theorem WEs.use {e : List Expr} {pos : Pos} {Q₁ : List PV → Mu → Prop} {P : List Value → Shared → Prop} (h : WEs c k sc ρ μ e Q₁) (S : Sim c env sc X fz ρ μ s) (r : Room A k)
    (hf : ∀ v pv μ' fz' s', Q₁ pv μ' → RA c fz' v pv → Led.le fz fz' → Sim c env sc X fz' ρ μ' s' → P v s') : wpAny c.M A (spliced (backTo pos (starEach e env))) P E s :=
  wpAny_mono (h A env X fz s E pos r S) (fun v s' ⟨p, m, f', a, b, d, e⟩ => hf v p m f' s' a b d e) fun _ _ x => x
theorem WO.use {t : List Value → Sem Value} {ps : List PV} {vs : List Value} {Q₁ : PV → Mu → Prop} {P : Value → Shared → Prop} (h : WO c k t ps μ Q₁) (S : Sim c env sc X fz ρ μ s) (r : Room A k) (ra : RA c fz vs ps)
    (hf : ∀ v pv μ' fz' s', Q₁ pv μ' → R c fz' v pv → Led.le fz fz' → Sim c env sc X fz' ρ μ' s' → P v s') : wpAny c.M A (t vs) P E s :=
  wpAny_mono (h A env sc ρ X fz s E vs r ra S) (fun v s' ⟨p, m, f', a, b, d, e⟩ => hf v p m f' s' a b d e) fun _ _ x => x
theorem upE {α : Type} {t : Sem α} {Q : PV → Mu → Prop} {f : α → Value} (le : Led.le fz fz₁) (h : wpAny c.M A t (fun v => PE c env sc X fz₁ ρ Q (f v)) E s) : wpAny c.M A t (fun v => PE c env sc X fz ρ Q (f v)) E s :=
  wpAny_mono h (fun _ _ x => x.up le) fun _ _ x => x

noncomputable abbrev kB2 (c : Cx) (k : Nat) (f : Value → Value → Sem Value) (va : PV) (Q : PV → Mu → Prop) : PV → Mu → Prop := fun vb μ₂ => WO c k (t2 f) [va, vb] μ₂ Q
noncomputable abbrev kB1 (c : Cx) (k : Nat) (sc : SC) (ρ : Rho) (f : Value → Value → Sem Value) (r : Expr) (Q : PV → Mu → Prop) : PV → Mu → Prop := fun va μ₁ => WE c k sc ρ μ₁ r (kB2 c k f va Q)
noncomputable abbrev kU (c : Cx) (k : Nat) (f : Value → Sem Value) (Q : PV → Mu → Prop) : PV → Mu → Prop := fun va μ₁ => WO c k (t1 f) [va] μ₁ Q
noncomputable abbrev kIE (c : Cx) (k : Nat) (sc : SC) (ρ : Rho) (b o : Expr) (Q : PV → Mu → Prop) : Bool → Mu → Prop := fun v μ₁ => (v = true → WE c k sc ρ μ₁ b Q) ∧ (v = false → WE c k sc ρ μ₁ o Q)
noncomputable abbrev kBo (Q : Bool → Mu → Prop) : PV → Mu → Prop := fun v μ₃ => ∃ b, v = .bool b ∧ Q b μ₃
noncomputable abbrev kAnd (c : Cx) (k : Nat) (sc : SC) (ρ : Rho) (y : Expr) (Q : Bool → Mu → Prop) : Bool → Mu → Prop := fun b μ₁ => (b = true → WT c k sc ρ μ₁ y Q) ∧ (b = false → Q false μ₁)
noncomputable abbrev kOr (c : Cx) (k : Nat) (sc : SC) (ρ : Rho) (y : Expr) (Q : Bool → Mu → Prop) : Bool → Mu → Prop := fun b μ₁ => (b = false → WT c k sc ρ μ₁ y Q) ∧ (b = true → Q true μ₁)
noncomputable abbrev kC2 (v : PV) (Q : List PV → Mu → Prop) : List PV → Mu → Prop := fun vs μ₂ => Q (v :: vs) μ₂
noncomputable abbrev kC1 (c : Cx) (k : Nat) (sc : SC) (ρ : Rho) (es : List Expr) (Q : List PV → Mu → Prop) : PV → Mu → Prop := fun v μ₁ => WEs c k sc ρ μ₁ es (kC2 v Q)
noncomputable abbrev kT (Q : PV → Mu → Prop) : List PV → Mu → Prop := fun vs μ₁ => vs.length ≤ 1000000 ∧ Q (.tuple vs) μ₁
noncomputable abbrev kL (Q : PV → Mu → Prop) : List PV → Mu → Prop := fun vs μ₁ => vs.length ≤ 1000000 ∧ Q (.list vs) μ₁
theorem WE_BinOp {l r : Expr} {op : Operator} {pos : Pos} {Q : PV → Mu → Prop}
    (h : WE c k sc ρ μ l (kB1 c k sc ρ (binaryOp op) r Q)) : WE c k sc ρ μ (.BinOp l op r pos) Q :=
  fun A env X fz s E rm S => wpAny_BinOp (h.use S rm fun v pv μ' fz' s' h₁ rv l1 S' => h₁.use S' rm fun w pw μ'' fz'' s'' h₂ rw' l2 S'' =>
    upE (l1.trans l2) (h₂ A env sc ρ X fz'' s'' E [v, w] rm (.cons (rv.mono l2) (.cons rw' .nil)) S''))
theorem WE_Compare {l r : Expr} {op : CmpOp} {pos : Pos} {Q : PV → Mu → Prop} (hm : behindInMarks op r = false)
    (h : WE c k sc ρ μ l (kB1 c k sc ρ (compareOp op) r Q)) : WE c k sc ρ μ (.Compare l [op] [r] pos) Q :=
  fun A env X fz s E rm S => wpAny_Compare1 (h.use S rm fun v pv μ' fz' s' h₁ rv l1 S' => h₁.use S' rm fun w pw μ'' fz'' s'' h₂ rw' l2 S'' =>
    upE (l1.trans l2) (h₂ A env sc ρ X fz'' s'' E [v, w] rm (.cons (rv.mono l2) (.cons rw' .nil)) S'')) hm
theorem WE_UnaryOp {x : Expr} {op : UnaryOp} {pos : Pos} {Q : PV → Mu → Prop}
    (h : WE c k sc ρ μ x (kU c k (unaryOp op) Q)) : WE c k sc ρ μ (.UnaryOp op x pos) Q :=
  fun A env X fz s E rm S => by
    show wpAny _ A (do let v ← eval x env; standAt pos; holding [v] (unaryOp op v)) _ _ _
    exact wpAny_bind (h.use S rm fun v pv μ' fz' s' h₁ rv l1 S' => wpAny_bind (wpAny_standAt (wpAny_holding (upE l1 (h₁ A env sc ρ X fz' s' E [v] rm (.cons rv .nil) S')))))
theorem WE_IfExp {t b o : Expr} {pos : Pos} {Q : PV → Mu → Prop}
    (h : WT c k sc ρ μ t (kIE c k sc ρ b o Q)) : WE c k sc ρ μ (.IfExp t b o pos) Q :=
  fun A env X fz s E rm S => by
    show wpAny _ A (do if ← isTrue t env (eval t env) then eval b env else eval o env) _ _ _
    refine wpAny_bind (h.use S rm fun v μ' fz' s' h₁ l1 S' => ?_)
    cases v with
    | true => exact upE l1 (h₁.1 rfl A env X fz' s' E rm S')
    | false => exact upE l1 (h₁.2 rfl A env X fz' s' E rm S')
inductive Truth : PV → Mu → Bool → Prop
  | bool (b : Bool) (μ : Mu) : Truth (.bool b) μ b

theorem WT_Compare {l r : Expr} {op : CmpOp} {pos : Pos} {Q : Bool → Mu → Prop} (hm : behindInMarks op r = false)
    (h : WE c k sc ρ μ l (kB1 c k sc ρ (compareOp op) r (kBo Q))) : WT c k sc ρ μ (.Compare l [op] [r] pos) Q :=
  fun A env X fz s E rm S => wpAny_isTrue_Compare1 (h.use S rm fun v pv μ' fz' s' h₁ rv l1 S' => h₁.use S' rm fun w pw μ'' fz'' s'' h₂ rw' l2 S'' =>
    (h₂.use S'' rm (.cons (rv.mono l2) (.cons rw' .nil)) fun x px μ₃ fz₃ s₃ h₃ rx l3 S₃ => by
      obtain ⟨b, rfl, h₃⟩ := h₃
      cases rx with
      | bool => exact wpAny_truthy_bool ⟨μ₃, fz₃, h₃, (l1.trans l2).trans l3, S₃⟩)) hm
theorem WT_Not {x : Expr} {pos : Pos} {Q : Bool → Mu → Prop} (h : WT c k sc ρ μ x (fun b μ₁ => Q (!b) μ₁)) : WT c k sc ρ μ (.UnaryOp .Not x pos) Q :=
  fun A env X fz s E rm S => by
    show wpAny _ A (do return !(← isTrue x env (eval x env))) _ _ _
    exact wpAny_bind (h.use S rm fun v μ' fz' s' h₁ l1 S' => wpAny_pure ⟨μ', fz', h₁, l1, S'⟩)
theorem WT_and {x y : Expr} {pos : Pos} {Q : Bool → Mu → Prop} (h : WT c k sc ρ μ x (kAnd c k sc ρ y Q)) : WT c k sc ρ μ (.BoolOp .And [x, y] pos) Q :=
  fun A env X fz s E rm S => by
    show wpAny _ A (allTrue .And [x, y] env) _ _ _
    refine wpAny_bind (m := isTrue x env (eval x env)) (h.use S rm fun v μ' fz' s' h₁ l1 S' => ?_)
    cases v with
    | false => exact wpAny_pure ⟨μ', fz', h₁.2 rfl, l1, S'⟩
    | true =>
      show wpAny _ A (allTrue .And [y] env) _ _ _
      refine wpAny_bind (m := isTrue y env (eval y env)) ((h₁.1 rfl).use S' rm fun v μ'' fz'' s'' h₂ l2 S'' => ?_)
      cases v with
      | false => exact wpAny_pure ⟨μ'', fz'', h₂, l1.trans l2, S''⟩
      | true => exact wpAny_pure ⟨μ'', fz'', h₂, l1.trans l2, S''⟩
theorem WT_or {x y : Expr} {pos : Pos} {Q : Bool → Mu → Prop} (h : WT c k sc ρ μ x (kOr c k sc ρ y Q)) : WT c k sc ρ μ (.BoolOp .Or [x, y] pos) Q :=
  fun A env X fz s E rm S => by
    show wpAny _ A (allTrue .Or [x, y] env) _ _ _
    refine wpAny_bind (m := isTrue x env (eval x env)) (h.use S rm fun v μ' fz' s' h₁ l1 S' => ?_)
    cases v with
    | true => exact wpAny_pure ⟨μ', fz', h₁.2 rfl, l1, S'⟩
    | false =>
      show wpAny _ A (allTrue .Or [y] env) _ _ _
      refine wpAny_bind (m := isTrue y env (eval y env)) ((h₁.1 rfl).use S' rm fun v μ'' fz'' s'' h₂ l2 S'' => ?_)
      cases v with
      | false => exact wpAny_pure ⟨μ'', fz'', h₂, l1.trans l2, S''⟩
      | true => exact wpAny_pure ⟨μ'', fz'', h₂, l1.trans l2, S''⟩
noncomputable def plainTest (e : Expr) : Bool := e.ctorIdx != 0 && e.ctorIdx != 3 && e.ctorIdx != 5 && e.ctorIdx != 15
theorem isTrue_of_plain {e : Expr} (he : plainTest e = true) (env : Env) (whole : Sem Value) : isTrue e env whole = (do let v ← whole; standAt e.pos; holding [v] (truthy v)) := by
  cases e <;> first | rfl | cases he
theorem WT_plain {e : Expr} {Q : Bool → Mu → Prop} (he : plainTest e = true) (h : WE c k sc ρ μ e (kBo Q)) : WT c k sc ρ μ e Q :=
  fun A env X fz s E rm S => by
    rw [isTrue_of_plain he]
    refine wpAny_bind (h.use S rm fun v pv μ' fz' s' h₁ rv l1 S' => wpAny_bind (wpAny_standAt (wpAny_holding ?_)))
    obtain ⟨b, rfl, h₁⟩ := h₁
    cases rv with
    | bool => exact wpAny_truthy_bool ⟨μ', fz', h₁, l1, S'⟩

noncomputable def notStar (e : Expr) : Bool := e.ctorIdx != 22
theorem starEach_of {e : Expr} (he : notStar e = true) (rest : List Expr) (env : Env) : starEach (e :: rest) env = (false, eval e env) :: starEach rest env := by
  cases e <;> first | rfl | cases he
theorem WEs_nil {Q : List PV → Mu → Prop} (h : Q [] μ) : WEs c k sc ρ μ [] Q := fun A env X fz s E pos rm S => args_nil ⟨[], μ, fz, h, .nil, .refl _, S⟩
theorem WEs_cons {e : Expr} {es : List Expr} {Q : List PV → Mu → Prop} (he : notStar e = true) (h : WE c k sc ρ μ e (kC1 c k sc ρ es Q)) : WEs c k sc ρ μ (e :: es) Q :=
  fun A env X fz s E pos rm S => args_cons (h.use S rm fun v pv μ' fz' s' h₁ rv l1 S' => h₁.use S' rm fun vs pvs μ'' fz'' s'' h₂ rvs l2 S'' =>
    ⟨pv :: pvs, μ'', fz'', h₂, .cons (rv.mono l2) rvs, l1.trans l2, S''⟩) (starEach_of he es env)
theorem WE_Tuple {es : List Expr} {n : Nat} {pos : Pos} {Q : PV → Mu → Prop} (h : WEs c k sc ρ μ es (kT Q)) : WE c k sc ρ μ (.Tuple es n pos) Q :=
  fun A env X fz s E rm S => Tuple_ (h.use S rm fun vs pvs μ' fz' s' h₁ ra l1 S' => by
    have hl := ra.length
    refine wpAny_newObj_type ?_ (by show vs.toArray.size ≤ sizeLine; rw [List.size_toArray, sizeLine_eq]; have := h₁.1; lia)
    exact ⟨_, μ', fz'.add s'.heap.objs.size (tO vs 0), h₁.2, .tuple (Led.add_self ..) (ra.mono (Led.le_add (Led.fresh S'.x.ef (Nat.le_refl _)))), l1.trans (Led.le_add (Led.fresh S'.x.ef (Nat.le_refl _))), S'.pushF _ _ rfl⟩)
theorem WE_List {es : List Expr} {pos : Pos} {Q : PV → Mu → Prop} (h : WEs c k sc ρ μ es (kL Q)) : WE c k sc ρ μ (.List es pos) Q :=
  fun A env X fz s E rm S => List_ (h.use S rm fun vs pvs μ' fz' s' h₁ ra l1 S' => by
    have hl := ra.length
    refine wpAny_newObj_type ?_ (by show vs.toArray.size ≤ sizeLine; rw [List.size_toArray, sizeLine_eq]; have := h₁.1; lia)
    exact ⟨_, μ', fz'.add s'.heap.objs.size (lO vs 0), h₁.2, .list (Led.add_self ..) (ra.mono (Led.le_add (Led.fresh S'.x.ef (Nat.le_refl _)))), l1.trans (Led.le_add (Led.fresh S'.x.ef (Nat.le_refl _))), S'.pushF _ _ rfl⟩)
theorem WE_ListM {es : List Expr} {pos : Pos} {Q : PV → Mu → Prop} (h : WEs c k sc ρ μ es (fun vs μ₁ => vs.length ≤ 1000000 ∧ ∀ a, μ₁ a = none → Q (.ptr a) (μ₁.set a (.list vs)))) : WE c k sc ρ μ (.List es pos) Q :=
  fun A env X fz s E rm S => List_ (h.use S rm fun vs pvs μ' fz' s' h₁ ra l1 S' => by
    have hl := ra.length
    refine wpAny_newObj_type ?_ (by show vs.toArray.size ≤ sizeLine; rw [List.size_toArray, sizeLine_eq]; have := h₁.1; lia)
    exact ⟨_, _, fz', h₁.2 _ (Mu.fresh S'.x (Nat.le_refl _)), .ptr _, l1, S'.newμ (o := lO vs 0) _ rfl (.list ra)⟩)
theorem WE_int {i : Int} {n : Nat} {pos : Pos} {Q : PV → Mu → Prop} (h : Q (.int i) μ) : WE c k sc ρ μ (.Constant (.int i) n pos) Q :=
  fun A env X fz s E rm S => wpAny_Constant_int ((S.toks _).pe (.int _ _) h)
theorem WE_str {x : Str} {n : Nat} {pos : Pos} {Q : PV → Mu → Prop} (h : Q (.str x) μ) : WE c k sc ρ μ (.Constant (.str x) n pos) Q :=
  fun A env X fz s E rm S => Constant_str ((S.toks _).pe (.str _ _) h)
theorem WE_none {n : Nat} {pos : Pos} {Q : PV → Mu → Prop} (h : Q .none μ) : WE c k sc ρ μ (.Constant .none n pos) Q :=
  fun A env X fz s E rm S => wpAny_pure (S.pe .none h)
theorem WE_bool {b : Bool} {n : Nat} {pos : Pos} {Q : PV → Mu → Prop} (h : Q (.bool b) μ) : WE c k sc ρ μ (.Constant (.bool b) n pos) Q :=
  fun A env X fz s E rm S => wpAny_pure (S.pe (.bool _) h)

theorem WE_Name {x : Str} {pos : Pos} {v : PV} {kd : NameKind} {Q : PV → Mu → Prop} (hk : sc.scope.names.lookup x = some kd) (hr : ρ.lookup x = some v) (h : Q v μ)
    (h3 : kd = .local ∨ kd = .cell ∨ kd = .free) (hd : (x == ("__debug__" : Str)) = false) (hc : (x == ("__classdict__" : Str)) = false) : WE c k sc ρ μ (.Name x pos) Q := fun A env X fz s E rm S => by
  have hkk : env.kindOf x = some kd := by show env.scope.names.lookup x = _; rw [S.ok.scope]; exact hk
  have hf : env.scope.kind = .function := by rw [S.ok.scope]; exact S.ok.fn
  rcases h3 with rfl | rfl | rfl
  · obtain ⟨m, hn, hm⟩ := S.e.ns
    obtain ⟨r, e, rr⟩ := hm x v hkk hr
    exact wpAny_Name (wpAny_loadName_local hf hkk hn e (S.pe rr h)) hd
  · obtain ⟨a, r, e, hcell, rr⟩ := S.e.cells x v (.inl hkk) hr
    exact wpAny_Name (wpAny_loadName_cell hf hkk e hcell (S.pe rr h)) hd
  · obtain ⟨a, r, e, hcell, rr⟩ := S.e.cells x v (.inr hkk) hr
    exact wpAny_Name (wpAny_loadName_free hf hkk e hcell (S.pe rr h) hc) hd
end
inductive PF where
  | next | brk | cont
  | ret (v : PV)
inductive RFl (c : Cx) (fz : Led) : Flow → PF → Prop
  | next : RFl c fz .next .next
  | brk : RFl c fz .brk .brk
  | cont : RFl c fz .cont .cont
  | ret {v : Value} {p : PV} : R c fz v p → RFl c fz (.ret v) (.ret p)
noncomputable def RFlInv (c : Cx) (fz : Led) (f : Flow) : PF → Prop
  | .next => f = .next
  | .brk => f = .brk
  | .cont => f = .cont
  | .ret p => ∃ v, f = .ret v ∧ R c fz v p
theorem RFl.inv {c : Cx} {fz : Led} {f : Flow} {p : PF} (h : RFl c fz f p) : RFlInv c fz f p := by
  cases h with
  | next => exact rfl
  | brk => exact rfl
  | cont => exact rfl
  | ret h => exact ⟨_, rfl, h⟩
theorem RFl.mono {c : Cx} {f g : Led} (hs : Led.le f g) {a : Flow} {b : PF} : RFl c f a b → RFl c g a b
  | .next => .next
  | .brk => .brk
  | .cont => .cont
  | .ret h => .ret (h.mono hs)

noncomputable abbrev PPost := PF → Rho → Mu → Prop
inductive PS (c : Cx) (env : Env) (sc : SC) (X fz : Led) (Q : PPost) (f : Flow) (s' : Shared) : Prop
  | mk (pf : PF) (ρ' : Rho) (μ' : Mu) (fz' : Led) : Q pf ρ' μ' → RFl c fz' f pf → Led.le fz fz' → Sim c env sc X fz' ρ' μ' s' → PS c env sc X fz Q f s'
inductive PA (c : Cx) (env : Env) (sc : SC) (X fz : Led) (Q : Rho → Mu → Prop) (s' : Shared) : Prop
  | mk (ρ' : Rho) (μ' : Mu) (fz' : Led) : Q ρ' μ' → Led.le fz fz' → Sim c env sc X fz' ρ' μ' s' → PA c env sc X fz Q s'

noncomputable def WS (c : Cx) (k : Nat) (sc : SC) (ρ : Rho) (μ : Mu) (st : Stmt) (Q : PPost) : Prop :=
  ∀ (A : Around) (env : Env) (X fz : Led) (s : Shared) (E : Value → Shared → Prop), Room A k → Sim c env sc X fz ρ μ s → wpAny c.M A (exec st env) (PS c env sc X fz Q) E s
noncomputable def WSs (c : Cx) (k : Nat) (sc : SC) (ρ : Rho) (μ : Mu) (st : List Stmt) (Q : PPost) : Prop :=
  ∀ (A : Around) (env : Env) (X fz : Led) (s : Shared) (E : Value → Shared → Prop), Room A k → Sim c env sc X fz ρ μ s → wpAny c.M A (execs st env) (PS c env sc X fz Q) E s
noncomputable def WA (c : Cx) (k : Nat) (sc : SC) (ρ : Rho) (μ : Mu) (t : Expr) (v : PV) (Q : Rho → Mu → Prop) : Prop :=
  ∀ (A : Around) (env : Env) (X fz : Led) (s : Shared) (E : Value → Shared → Prop) (r : Value), Room A k → R c fz r v → Sim c env sc X fz ρ μ s → wpAny c.M A (assign t env r) (fun _ => PA c env sc X fz Q) E s
noncomputable def WAs (c : Cx) (k : Nat) (sc : SC) (ρ : Rho) (μ : Mu) (ts : List Expr) (vs : List PV) (Q : Rho → Mu → Prop) : Prop :=
  ∀ (A : Around) (env : Env) (X fz : Led) (s : Shared) (E : Value → Shared → Prop) (rs : List Value), Room A k → RA c fz rs vs → Sim c env sc X fz ρ μ s → wpAny c.M A (assignInOrder ((assignEach ts env).map (·.2)) rs) (fun _ => PA c env sc X fz Q) E s

section
variable {c : Cx} {k : Nat} {sc : SC} {ρ : Rho} {μ : Mu} {env : Env} {X fz fz₁ : Led} {s : Shared} {A : Around} {E : Value → Shared → Prop}

theorem PS.up {Q : PPost} {f : Flow} (le : Led.le fz fz₁) (h : PS c env sc X fz₁ Q f s) : PS c env sc X fz Q f s :=
  let ⟨p, r, m, f, a, b, d, e⟩ := h; ⟨p, r, m, f, a, b, le.trans d, e⟩
theorem PA.up {Q : Rho → Mu → Prop} (le : Led.le fz fz₁) (h : PA c env sc X fz₁ Q s) : PA c env sc X fz Q s :=
  let ⟨r, m, f, a, d, e⟩ := h; ⟨r, m, f, a, le.trans d, e⟩
theorem upS {t : Sem Flow} {Q : PPost} (le : Led.le fz fz₁) (h : wpAny c.M A t (PS c env sc X fz₁ Q) E s) : wpAny c.M A t (PS c env sc X fz Q) E s := wpAny_mono h (fun _ _ x => x.up le) fun _ _ x => x
theorem upA {t : Sem Unit} {Q : Rho → Mu → Prop} (le : Led.le fz fz₁) (h : wpAny c.M A t (fun _ => PA c env sc X fz₁ Q) E s) : wpAny c.M A t (fun _ => PA c env sc X fz Q) E s := wpAny_mono h (fun _ _ x => x.up le) fun _ _ x => x

theorem WS.use {e : Stmt} {Q₁ : PPost} {P : Flow → Shared → Prop} (h : WS c k sc ρ μ e Q₁) (S : Sim c env sc X fz ρ μ s) (r : Room A k)
    (hf : ∀ v pv ρ' μ' fz' s', Q₁ pv ρ' μ' → RFl c fz' v pv → Led.le fz fz' → Sim c env sc X fz' ρ' μ' s' → P v s') : wpAny c.M A (exec e env) P E s :=
  wpAny_mono (h A env X fz s E r S) (fun v s' ⟨p, r, m, f', a, b, d, e⟩ => hf v p r m f' s' a b d e) fun _ _ x => x
theorem WSs.use {e : List Stmt} {Q₁ : PPost} {P : Flow → Shared → Prop} (h : WSs c k sc ρ μ e Q₁) (S : Sim c env sc X fz ρ μ s) (r : Room A k)
    (hf : ∀ v pv ρ' μ' fz' s', Q₁ pv ρ' μ' → RFl c fz' v pv → Led.le fz fz' → Sim c env sc X fz' ρ' μ' s' → P v s') : wpAny c.M A (execs e env) P E s :=
  wpAny_mono (h A env X fz s E r S) (fun v s' ⟨p, r, m, f', a, b, d, e⟩ => hf v p r m f' s' a b d e) fun _ _ x => x
theorem WA.use {t : Expr} {v : PV} {r : Value} {Q₁ : Rho → Mu → Prop} {P : Shared → Prop} (h : WA c k sc ρ μ t v Q₁) (S : Sim c env sc X fz ρ μ s) (rm : Room A k) (rr : R c fz r v)
    (hf : ∀ ρ' μ' fz' s', Q₁ ρ' μ' → Led.le fz fz' → Sim c env sc X fz' ρ' μ' s' → P s') : wpAny c.M A (assign t env r) (fun _ => P) E s :=
  wpAny_mono (h A env X fz s E r rm rr S) (fun v s' ⟨r, m, f', a, d, e⟩ => hf r m f' s' a d e) fun _ _ x => x
theorem WAs.use {t : List Expr} {v : List PV} {r : List Value} {Q₁ : Rho → Mu → Prop} {P : Shared → Prop} (h : WAs c k sc ρ μ t v Q₁) (S : Sim c env sc X fz ρ μ s) (rm : Room A k) (rr : RA c fz r v)
    (hf : ∀ ρ' μ' fz' s', Q₁ ρ' μ' → Led.le fz fz' → Sim c env sc X fz' ρ' μ' s' → P s') : wpAny c.M A (assignInOrder ((assignEach t env).map (·.2)) r) (fun _ => P) E s :=
  wpAny_mono (h A env X fz s E r rm rr S) (fun v s' ⟨r, m, f', a, d, e⟩ => hf r m f' s' a d e) fun _ _ x => x
theorem WS.mono {e : Stmt} {Q Q' : PPost} (h : WS c k sc ρ μ e Q) (hq : ∀ f r m, Q f r m → Q' f r m) : WS c k sc ρ μ e Q' :=
  fun A env X fz s E rm S => h.use S rm fun v pv ρ' μ' fz' s' a b d e => ⟨pv, ρ', μ', fz', hq _ _ _ a, b, d, e⟩
theorem WSs.mono {e : List Stmt} {Q Q' : PPost} (h : WSs c k sc ρ μ e Q) (hq : ∀ f r m, Q f r m → Q' f r m) : WSs c k sc ρ μ e Q' :=
  fun A env X fz s E rm S => h.use S rm fun v pv ρ' μ' fz' s' a b d e => ⟨pv, ρ', μ', fz', hq _ _ _ a, b, d, e⟩
theorem WA.mono {t : Expr} {v : PV} {Q Q' : Rho → Mu → Prop} (h : WA c k sc ρ μ t v Q) (hq : ∀ r m, Q r m → Q' r m) : WA c k sc ρ μ t v Q' :=
  fun A env X fz s E r rm rr S => h.use S rm rr fun ρ' μ' fz' s' a d e => ⟨ρ', μ', fz', hq _ _ a, d, e⟩

noncomputable abbrev kSeq (c : Cx) (k : Nat) (sc : SC) (rs : List Stmt) (Q : PPost) : PPost := fun f ρ₁ μ₁ => match f with | .next => WSs c k sc ρ₁ μ₁ rs Q | f => Q f ρ₁ μ₁
noncomputable abbrev kRet (ρ : Rho) (Q : PPost) : PV → Mu → Prop := fun v μ₁ => Q (.ret v) ρ μ₁
noncomputable abbrev kIf (c : Cx) (k : Nat) (sc : SC) (ρ : Rho) (b o : List Stmt) (Q : PPost) : Bool → Mu → Prop := fun v μ₁ => (v = true → WSs c k sc ρ μ₁ b Q) ∧ (v = false → WSs c k sc ρ μ₁ o Q)
noncomputable abbrev kNx (Q : PPost) : Rho → Mu → Prop := fun ρ₂ μ₂ => Q .next ρ₂ μ₂
noncomputable abbrev kAs (c : Cx) (k : Nat) (sc : SC) (ρ : Rho) (t : Expr) (Q : PPost) : PV → Mu → Prop := fun v μ₁ => WA c k sc ρ μ₁ t v (kNx Q)
noncomputable abbrev kWs (c : Cx) (k : Nat) (sc : SC) (ts : List Expr) (vs : List PV) (Q : Rho → Mu → Prop) : Rho → Mu → Prop := fun ρ₁ μ₁ => WAs c k sc ρ₁ μ₁ ts vs Q
noncomputable abbrev kEx (ρ : Rho) (Q : PPost) : PV → Mu → Prop := fun v μ₁ => v = .none ∧ Q .next ρ μ₁
theorem WSs_nil {Q : PPost} (h : Q .next ρ μ) : WSs c k sc ρ μ [] Q := fun A env X fz s E rm S => wpAny_execs_nil ⟨_, ρ, μ, fz, h, .next, .refl _, S⟩
theorem WSs_cons {st : Stmt} {rs : List Stmt} {Q : PPost} (h : WS c k sc ρ μ st (kSeq c k sc rs Q)) : WSs c k sc ρ μ (st :: rs) Q :=
  fun A env X fz s E rm S => wpAny_execs_cons (h.use S rm fun v pv ρ' μ' fz' s' h₁ rf l1 S' => by
    cases rf with
    | next => exact upS l1 (h₁ A env X fz' s' E rm S')
    | brk => exact ⟨_, ρ', μ', fz', h₁, .brk, l1, S'⟩
    | cont => exact ⟨_, ρ', μ', fz', h₁, .cont, l1, S'⟩
    | ret r => exact ⟨_, ρ', μ', fz', h₁, .ret r, l1, S'⟩)
theorem WS_Return {e : Expr} {pos : Pos} {Q : PPost} (h : WE c k sc ρ μ e (kRet ρ Q)) : WS c k sc ρ μ (.Return (some e) pos) Q :=
  fun A env X fz s E rm S => wpAny_Return_some (h.use S rm fun v pv μ' fz' s' h₁ rv l1 S' => ⟨_, ρ, μ', fz', h₁, .ret rv, l1, S'⟩)
theorem WS_Pass {pos : Pos} {Q : PPost} (h : Q .next ρ μ) : WS c k sc ρ μ (.Pass pos) Q := fun A env X fz s E rm S => wpAny_Pass ⟨_, ρ, μ, fz, h, .next, .refl _, S⟩
theorem WS_If {t : Expr} {b o : List Stmt} {pos : Pos} {Q : PPost} (h : WT c k sc ρ μ t (kIf c k sc ρ b o Q)) : WS c k sc ρ μ (.If t b o pos) Q :=
  fun A env X fz s E rm S => wpAny_If (h.use S rm fun v μ' fz' s' h₁ l1 S' => by
    cases v with
    | true => exact upS l1 (h₁.1 rfl A env X fz' s' E rm S')
    | false => exact upS l1 (h₁.2 rfl A env X fz' s' E rm S'))

noncomputable def env0 (sc : Scope) : Env := { scope := sc, locals := 0, globals := 0, cells := [] }
theorem swapsWith_scope (v : Expr) (t : Option Expr) (l : Nat) (env : Env) : swapsWith v t l env = swapsWith v t l (env0 env.scope) := rfl
theorem swapsSole_scope (t : List Expr) (v : Expr) (l : Nat) (env : Env) : swapsWithSole t v l env = swapsWithSole t v l (env0 env.scope) := by
  cases t with
  | nil => rfl
  | cons a b => cases b <;> rfl
theorem swapped_scope (t : List Expr) (v : Expr) (env : Env) : swappedStores t v env = swappedStores t v (env0 env.scope) := rfl

noncomputable def Rho.set (ρ : Rho) (x : Str) (v : PV) : Rho := (x, v) :: ρ
theorem lookup_set (ρ : Rho) (x y : Str) (v : PV) : (Rho.set ρ x v).lookup y = if y = x then some v else ρ.lookup y := by
  by_cases h : y = x
  · rw [if_pos h, h]; exact List.lookup_cons_self
  · rw [if_neg h]; exact lookup_ne h

theorem Sim.kind (S : Sim c env sc X fz ρ μ s) {x : Str} {kd : NameKind} (hk : sc.scope.names.lookup x = some kd) : env.kindOf x = some kd := by
  show env.scope.names.lookup x = _; rw [S.ok.scope]; exact hk
theorem Sim.fn (S : Sim c env sc X fz ρ μ s) : env.scope.kind = .function := by rw [S.ok.scope]; exact S.ok.fn

theorem lookup_self {ρ : Rho} {x : Str} {v : PV} : (ρ.set x v).lookup x = some v := (lookup_set ..).trans (if_pos rfl)
theorem set_ne {ρ : Rho} {x y : Str} {v w : PV} (h : y ≠ x) (q : (ρ.set x v).lookup y = some w) : ρ.lookup y = some w := (if_neg h).symm.trans ((lookup_set ..).symm.trans q)
theorem set_at {ρ : Rho} {x y : Str} {v w : PV} {P : Str → PV → Prop} (q : (ρ.set x v).lookup y = some w) (h1 : P x v) (h2 : y ≠ x → ρ.lookup y = some w → P y w) : P y w := by
  by_cases hy : y = x
  · subst hy; exact Option.some.inj (lookup_self.symm.trans q) ▸ h1
  · exact h2 hy (set_ne hy q)
theorem kne {x y : Str} {kd : NameKind} (h : env.kindOf x = some kd) (e : env.kindOf y ≠ some kd) : y ≠ x := fun q => e (q ▸ h)
theorem WA_store {x : Str} {v : PV} {r : Value} {kd : NameKind} {Q : Rho → Mu → Prop} (hk : sc.scope.names.lookup x = some kd) (h3 : kd = .local ∨ (kd = .cell ∧ x ∈ sc.own)) (h : Q (ρ.set x v) μ)
    (S : Sim c env sc X fz ρ μ s) (rr : R c fz r v) : wpAny c.M A (storeName env x r) (fun _ => PA c env sc X fz Q) E s := by
  have hkk := S.kind hk
  have hf := S.fn
  rcases h3 with rfl | ⟨rfl, ho⟩
  · obtain ⟨m, hn, hm⟩ := S.e.ns
    exact wpAny_storeName_local hkk hn (fun h' hn' hs => ⟨_, μ, fz, h, .refl _, S.relocal rfl rfl (fun b o hb e => (hs.2 b hb).trans e) hn'
      (fun y w e q => set_at (P := fun y w => ∃ r', (if y = x then some r else m y) = some r' ∧ R c fz r' w) q ⟨r, if_pos rfl, rr⟩ fun hy q => (hm y w e q).elim fun r' p => ⟨r', (if_neg hy).trans p.1, p.2⟩)
      fun y w e q => set_ne (kne hkk fun z => e.elim (fun e => nomatch z.symm.trans e) fun e => nomatch z.symm.trans e) q⟩) (by rw [hf]; rfl)
  · have z := S.e.ownd x ho
    obtain ⟨a, p1, ⟨w, p2⟩, p3, p4, p5, p6⟩ := z
    refine wpAny_storeName_cell hf hkk p1 p2 (fun h' hc hs => ⟨_, μ, fz, h, .refl _, S.x.but rfl rfl hs p3 p4 p6, ?_, S.ok⟩)
    have other : ∀ {y a'}, y ≠ x → (env.kindOf y = some .cell ∨ env.kindOf y = some .free) → env.cells.lookup y = some a' → a' ≠ a := fun {y a'} hy e q1 => by
      by_cases ho' : y ∈ sc.own
      · exact fun q => hy (S.e.inj y x _ ho' ho q1 (q ▸ p1))
      · exact (S.e.bor y e ho').elim fun a₂ z => z.elim fun o z => nes p3 (Option.some.inj (z.1.symm.trans q1) ▸ z.2)
    exact ⟨S.e.ns.elim fun m p => ⟨m, p.1.sameBut hs (Ne.symm p5), fun y w e q => p.2 y w e (set_ne (kne hkk fun z => nomatch z.symm.trans e) q)⟩, S.e.free,
      fun y w e q => set_at (P := fun y w => ∃ a r, env.cells.lookup y = some a ∧ h'.IsCell a (some r) ∧ R c fz r w) q ⟨a, r, p1, hc, rr⟩ fun hy q => (S.e.cells y w e q).elim fun a' p => p.elim fun r' p => ⟨a', r', p.1, p.2.1.sameBut hs (other hy e p.1), p.2.2⟩, S.e.bor,
      fun y e => by
        by_cases hy : y = x
        · exact hy ▸ ⟨a, p1, ⟨_, hc⟩, p3, p4, p5, p6⟩
        · exact (S.e.ownd y e).elim fun a' p => ⟨a', p.1, p.2.1.elim fun w' q => ⟨w', q.sameBut hs (other hy (.inl (S.e.kind y e)) p.1)⟩, p.2.2⟩, S.e.inj, S.e.kind⟩
theorem WA_Name {x : Str} {v : PV} {pos : Pos} {kd : NameKind} {Q : Rho → Mu → Prop} (hk : sc.scope.names.lookup x = some kd) (h3 : kd = .local ∨ (kd = .cell ∧ x ∈ sc.own)) (h : Q (ρ.set x v) μ) : WA c k sc ρ μ (.Name x pos) v Q :=
  fun A env X fz s E r rm rr S => wpAny_assign_Name (WA_store hk h3 h S rr)

theorem WS_Assign {t e : Expr} {pos : Pos} {Q : PPost} (h : WE c k sc ρ μ e (kAs c k sc ρ t Q))
    (hs : swapsWith e (some t) pos.line (env0 sc.scope) = pure false) (hw : swappedStores [t] e (env0 sc.scope) = pure none) (ht : notStar t = true) : WS c k sc ρ μ (.Assign [t] e pos) Q :=
  fun A env X fz s E rm S => by
    refine wpAny_Assign_stores ?_ ?_ ?_
    · refine h.use S rm fun v pv μ' fz' s' h₁ rv l1 S' => ?_
      have e1 : (assignEach [t] env).map (·.2) = [assign t env] := by cases t <;> first | rfl | cases ht
      rw [e1]
      exact h₁.use S' rm rv fun ρ₂ μ₂ fz₂ s₂ h₂ l2 S₂ => ⟨_, ρ₂, μ₂, fz₂, h₂, .next, l1.trans l2, S₂⟩
    · rw [swapsSole_scope, S.ok.scope]; exact hs
    · rw [swapped_scope, S.ok.scope]; exact hw

theorem WAs_nil {vs : List PV} {Q : Rho → Mu → Prop} (h : Q ρ μ) : WAs c k sc ρ μ [] vs Q := fun A env X fz s E rs rm ra S => by
  show wpAny _ _ (assignInOrder [] rs) _ _ _
  exact wpAny_pure ⟨ρ, μ, fz, h, .refl _, S⟩
theorem WAs_cons {t : Expr} {ts : List Expr} {v : PV} {vs : List PV} {Q : Rho → Mu → Prop} (ht : notStar t = true) (h : WA c k sc ρ μ t v (kWs c k sc ts vs Q)) : WAs c k sc ρ μ (t :: ts) (v :: vs) Q :=
  fun A env X fz s E rs rm ra S => by
    cases ra with
    | cons r ra =>
      have e1 : (assignEach (t :: ts) env).map (·.2) = assign t env :: (assignEach ts env).map (·.2) := by cases t <;> first | rfl | cases ht
      rw [e1]
      refine assignInOrder_cons (h.use S rm r fun ρ₁ μ₁ fz₁ s₁ h₁ l1 S₁ => ?_)
      exact upA l1 (h₁ A env X fz₁ s₁ E _ rm (ra.mono l1) S₁)
theorem WA_Tuple {ts : List Expr} {vs : List PV} {n : Nat} {pos : Pos} {Q : Rho → Mu → Prop} (hl : ts.length = vs.length) (hs : ts.all notStar = true) (h : WAs c k sc ρ μ ts vs Q) : WA c k sc ρ μ (.Tuple ts n pos) (.tuple vs) Q :=
  fun A env X fz s E r rm rr S => by
    obtain ⟨_, _, _, rfl, ha, ra⟩ := rr.inv
    rename_i a rs m
    have hlen : ∀ ts : List Expr, (assignEach ts env).length = ts.length := by
      intro ts
      induction ts with
      | nil => rfl
      | cons t ts ih => cases t <;> exact congrArg (· + 1) ih
    have hst : ∀ ts : List Expr, ts.all notStar = true → (assignEach ts env).findIdx? (·.1) = none := by
      intro ts
      induction ts with
      | nil => intro _; rfl
      | cons t ts ih =>
        intro e
        rw [List.all_cons, Bool.and_eq_true] at e
        have e1 : assignEach (t :: ts) env = (false, assign t env) :: assignEach ts env := by cases t <;> first | rfl | (cases e.1)
        rw [e1, List.findIdx?_cons]
        simp [ih e.2]
    refine assign_Tuple_tuple (items := rs.toArray) rm.1 ⟨_, S.x.ef _ _ ha, rfl, _, rfl⟩ (by rw [hlen, hl, List.size_toArray, ra.length]) (hst ts hs) fun h' he => ?_
    have hk : ∀ b o, s.heap.get? b = some o → h'.get? b = some o := fun b o e => he b o (Nat.ne_of_lt (Heap.lt_size e)) e
    exact h A env X fz { s with heap := h' } E rs rm ra (S.keep rfl rfl hk)

theorem bindEach {Q : Rho → Mu → Prop} (ns : List Str) : ∀ (fz : Led) (rs : List Value) (vs : List PV) (ρ : Rho) (s : Shared), ns.length = vs.length → (∀ n ∈ ns, sc.scope.names.lookup n = some .local) → Sim c env sc X fz ρ μ s → RA c fz rs vs →
    Q ((ns.zip vs).foldl (fun r p => Rho.set r p.1 p.2) ρ) μ → wpAny c.M A (assignInOrder (ns.map fun n => bindName env n) rs) (fun _ => PA c env sc X fz Q) E s := by
  induction ns with
  | nil =>
    intro fz rs vs ρ s _ _ S _ h
    show wpAny _ _ (assignInOrder [] rs) _ _ _
    exact wpAny_pure ⟨_, μ, fz, h, .refl _, S⟩
  | cons n ns ih =>
    intro fz rs vs ρ s hl hk S ra h
    cases ra with
    | nil => simp at hl
    | cons r ra =>
      refine assignInOrder_cons (wpAny_bindName ?_)
      refine wpAny_mono (WA_store (Q := fun ρ' μ' => ρ' = ρ.set n _ ∧ μ' = μ) (hk n List.mem_cons_self) (.inl rfl) ⟨rfl, rfl⟩ S r) (fun _ s' hs => ?_) fun _ _ x => x
      obtain ⟨ρ', μ', fz', ⟨rfl, rfl⟩, l1, S'⟩ := hs
      exact upA l1 (ih fz' _ _ _ s' (by simpa using hl) (fun n hn => hk n (List.mem_cons_of_mem _ hn)) S' (ra.mono l1) h)
theorem RA.reverse {rs : List Value} {vs : List PV} (h : RA c fz rs vs) : RA c fz rs.reverse vs.reverse :=
  h.ind (P := fun rs vs => RA c fz rs.reverse vs.reverse) .nil fun a _ i => by rw [List.reverse_cons, List.reverse_cons]; exact i.append (.cons a .nil)
theorem WS_Swap {ts : List Expr} {n : Nat} {tpos pos : Pos} {e : Expr} {names : List Str} {Q : PPost} (hs : swapsWithSole [.Tuple ts n tpos] e pos.line (env0 sc.scope) = pure false)
    (hw : swappedStores [.Tuple ts n tpos] e (env0 sc.scope) = pure (some names)) (hn : ∀ n ∈ names, sc.scope.names.lookup n = some .local)
    (h : WE c k sc ρ μ e (fun v μ₁ => ∃ vs, v = .tuple vs ∧ names.length = vs.length ∧ Q .next ((names.reverse.zip vs.reverse).foldl (fun r p => Rho.set r p.1 p.2) ρ) μ₁)) : WS c k sc ρ μ (.Assign [.Tuple ts n tpos] e pos) Q :=
  fun A env X fz s E rm S => by
    refine Assign_Tuple_swapped (names := names) ?_ (by rw [swapsSole_scope, S.ok.scope]; exact hs) (by rw [swapped_scope, S.ok.scope]; exact hw)
    refine h.use S rm fun v pv μ' fz' s' h₁ rv l1 S' => ?_
    obtain ⟨vs, rfl, hl, hq⟩ := h₁
    obtain ⟨_, _, _, rfl, ha, ra⟩ := rv.inv
    rename_i a rs m
    have e1 : names.length = rs.toArray.size := by rw [hl, List.size_toArray, ra.length]
    rw [e1]
    refine unpackItems_tuple rm.1 ⟨_, S'.x.ef _ _ ha, rfl, _, rfl⟩ fun h' he => ?_
    have hk : ∀ b o, s'.heap.get? b = some o → h'.get? b = some o := fun b o e => he b o (Nat.ne_of_lt (Heap.lt_size e)) e
    refine wpAny_mono (bindEach (Q := fun ρ₂ μ₂ => Q .next ρ₂ μ₂) names.reverse fz' rs.reverse vs.reverse ρ { s' with heap := h' } (by simpa using hl) (fun n hn' => hn n (List.mem_reverse.mp hn')) (S'.keep rfl rfl hk) ra.reverse hq) (fun _ s₂ h₂ => ?_) fun _ _ x => x
    obtain ⟨ρ₂, μ₂, fz₂, h₂, l2, S₂⟩ := h₂
    exact ⟨_, ρ₂, μ₂, fz₂, h₂, .next, l1.trans l2, S₂⟩

theorem WS_Expr {e : Expr} {pos : Pos} {Q : PPost} (hs : swapsWith e none pos.line (env0 sc.scope) = pure false) (h : WE c k sc ρ μ e (kEx ρ Q)) : WS c k sc ρ μ (.Expr e pos) Q :=
  fun A env X fz s E rm S => wpAny_Expr (h.use S rm fun v pv μ' fz' s' h₁ rv l1 S' => by
    obtain ⟨rfl, h₁⟩ := h₁
    (first | obtain rfl := rv.inv | obtain ⟨_, rfl⟩ := rv.inv | obtain ⟨_, _, _, rfl, _, _⟩ := rv.inv | obtain ⟨_, _, rfl, _⟩ := rv.inv | obtain ⟨_, rfl, _⟩ := rv.inv | obtain ⟨_, _, _, rfl, _, _, _, _, _⟩ := rv.inv | obtain ⟨_, _, _, _, rfl, _, _, _, _⟩ := rv.inv | obtain ⟨_, _, _, _, rfl, _, _, _, _, _⟩ := rv.inv | cases rv)
    exact ⟨_, ρ, μ', fz', h₁, .next, l1, S'⟩) (by unfold interactive; rw [S.fn]; rfl) (by rw [swapsWith_scope, S.ok.scope]; exact hs)
noncomputable abbrev kAv (ρ : Rho) (x : Str) (Q : PPost) : PV → Mu → Prop := fun u μ₂ => Q .next (ρ.set x u) μ₂
noncomputable abbrev kAu (c : Cx) (k : Nat) (op : Operator) (ρ : Rho) (x : Str) (v : PV) (Q : PPost) : PV → Mu → Prop := fun w μ₁ => WO c k (t2 (inplaceOp op)) [v, w] μ₁ (kAv ρ x Q)
theorem WS_AugName {x : Str} {p pos : Pos} {op : Operator} {e : Expr} {v : PV} {kd : NameKind} {Q : PPost} (hk : sc.scope.names.lookup x = some kd) (hr : ρ.lookup x = some v) (h3 : kd = .local ∨ (kd = .cell ∧ x ∈ sc.own))
    (h : WE c k sc ρ μ e (kAu c k op ρ x v Q)) : WS c k sc ρ μ (.AugAssign (.Name x p) op e pos) Q :=
  fun A env X fz s E rm S => by
    refine wpAny_AugAssign_Name ?_
    have go : ∀ r, R c fz r v → wpAny c.M A (eval e env) (fun w s₂ => wpAny c.M A (inplaceOp op r w) (fun u s₃ => wpAny c.M A (storeName env x u) (fun _ => PS c env sc X fz Q .next) E s₃) E s₂) E s := fun r rr =>
      h.use S rm fun w pw μ' fz' s' h₁ rw' l1 S' => h₁.use (t := t2 (inplaceOp op)) (vs := [r, w]) S' rm (.cons (rr.mono l1) (.cons rw' .nil)) fun u pu μ₂ fz₂ s₂ h₂ ru l2 S₂ =>
        wpAny_mono (WA_store (Q := fun ρ' μ' => ρ' = ρ.set x pu ∧ μ' = μ₂) hk h3 ⟨rfl, rfl⟩ S₂ ru) (fun _ s₃ h₃ => by
          obtain ⟨ρ₃, μ₃, fz₃, ⟨rfl, rfl⟩, l3, S₃⟩ := h₃
          exact ⟨_, _, _, fz₃, h₂, .next, (l1.trans l2).trans l3, S₃⟩) fun _ _ x => x
    have hkk := S.kind hk
    rcases h3 with rfl | ⟨rfl, ho⟩
    · obtain ⟨m, hn, hm⟩ := S.e.ns
      obtain ⟨r, e, rr⟩ := hm x v hkk hr
      exact wpAny_loadName_local S.fn hkk hn e (go r rr)
    · obtain ⟨a, r, e, hcell, rr⟩ := S.e.cells x v (.inl hkk) hr
      exact wpAny_loadName_cell S.fn hkk e hcell (go r rr)
end
noncomputable def rngN (lo hi st : Int) : Nat := (Builtin.Range.rangeSize lo hi st).toNat
noncomputable def rngItems (lo hi st : Int) : List PV := (List.range (rngN lo hi st)).map fun (i : Nat) => .int (lo + (i : Int) * st)
noncomputable def Items : PV → Option (List PV)
  | .list l => some l
  | .tuple l => some l
  | .dict ds => some (ds.map fun x => .tuple (x.1.map .int))
  | .rng lo hi st => if Builtin.Range.small lo hi st = true ∧ 0 ≤ Builtin.Range.rangeSize lo hi st then some (rngItems lo hi st) else none
  | _ => none

section
variable {prog : Program} {w : World} {A : Around} {E : Value → Shared → Prop} {s : Shared}
noncomputable abbrev dO (es : Array DictEntry) (ep : Nat) : Obj := { cls := .type "dict", data := .dict es ep }
theorem pyIter_keys {d : Addr} {es : Array DictEntry} {ep : Nat} {Q : Value → Shared → Prop} (hd : (d == sysModules) = false) (ho : s.heap.get? d = some (dO es ep))
    (hQ : Q (.ref s.heap.objs.size) { s with heap := s.heap.push { cls := .type "dict_keyiterator", data := .fields #[.ref d, .int 0 0, .int es.size 0, .int ep 0] } }) : wpAny (model prog w) A (pyIter (.ref d)) Q E s := by
  have hT : s.TypeIs (.ref d) "dict" := ⟨_, ho, rfl⟩
  refine wpAny_pyIter_slot hT PySem.F.slot_dict_iter (wpAny_call_entry PySem.F.slot_dict_iter hT PySem.F.entry_dict_iter ?_ (PySem.F.args_dict_iter_1 _))
  unfold Builtin.«dict.__iter__»
  refine wpAny_bind ?_
  unfold Builtin.Dict.dictSlotNone
  refine wpAny_bind (wpAny_notOrdered_dict hT ?_)
  show wpAny _ _ (pure (Value.ref d)) _ _ s
  refine wpAny_pure ?_
  show wpAny _ _ (Builtin.Dict.showsAll d >>= _) _ _ s
  unfold Builtin.Dict.showsAll
  rw [if_neg (by rw [hd]; exact Bool.false_ne_true)]
  refine wpAny_bind (wpAny_pure ?_)
  refine wpAny_bind (wpAny_dictEntries ho rfl ?_)
  refine wpAny_bind (wpAny_dictEpoch ho rfl ?_)
  refine wpAny_bind (wpAny_newObj_type (wpAny_pure ⟨_, rfl, "dict_keyiterator", _, ⟨_, Heap.get?_push_size _ rfl, rfl⟩, PySem.F.slot_dict_keyiterator_next.lookup, ?_⟩))
  simpa [rawInt] using hQ
theorem pyNext_key {it d : Addr} {i ep : Nat} {es : Array DictEntry} {Q : Option Value → Shared → Prop} (hit : s.heap.IsKeyIter it d i es.size ep) (hod : s.heap.get? d = some (dO es ep)) (hlt : i < es.size)
    (hQ : ∀ h', h'.IsKeyIter it d (i + 1) es.size ep → Heap.SameBut it s.heap h' → Q (some es[i].key) { s with heap := h' }) : wpAny (model prog w) A (pyNext (.ref it)) Q E s := by
  obtain ⟨o, ho, hc, hd⟩ := id hit
  unfold pyNext
  refine wpAny_bind (wpAny_attempt (wpAny_callSpecial?_slot (name := Str.ofString "__next__") hit.typeIs PySem.F.slot_dict_keyiterator_next
    (wpAny_call_entry PySem.F.slot_dict_keyiterator_next hit.typeIs PySem.F.entry_dict_keyiterator_next ?_ (PySem.F.args_dict_keyiterator_next_1 _))))
  refine wpAny_bind (wpAny_pure ?_)
  refine wpAny_bind ?_
  refine wpAny_bind ?_
  first | refine wpAny_bind (wpAny_typeNameOfWhole_keyiter hit.typeIs (wpAny_pure ?_)) | refine wpAny_bind (wpAny_typeNameOf_keyiter hit.typeIs (wpAny_pure ?_))
  refine wpAny_bind (wpAny_fieldsOf ho hd ?_)
  rw [if_neg (by decide)]
  show wpAny _ _ (if (Value.ref d == Value.none) = true then _ else _) _ _ s
  rw [if_neg (show ¬ ((Value.ref d == Value.none) = true) from Bool.false_ne_true)]
  refine wpAny_bind (wpAny_pure ?_)
  refine wpAny_bind (wpAny_dictEntries hod rfl ?_)
  rw [if_neg (by simp)]
  refine wpAny_bind (wpAny_pure ?_)
  refine wpAny_bind (wpAny_dictEpoch hod rfl ?_)
  rw [if_neg (by simp)]
  refine wpAny_pure ?_
  dsimp only
  rw [if_neg (Int.not_lt.mpr (Int.natCast_nonneg i)), Int.toNat_natCast, Array.getElem?_eq_getElem hlt]
  refine wpAny_bind ?_
  first | refine wpAny_bind (wpAny_typeNameOfWhole_keyiter hit.typeIs (wpAny_pure ?_)) | refine wpAny_bind (wpAny_typeNameOf_keyiter hit.typeIs (wpAny_pure ?_))
  refine wpAny_bind (wpAny_isOneOf_keyiter hit.typeIs ?_)
  show wpAny _ _ (setField (.ref it) 1 (rawInt ((i : Int) + 1)) >>= _) _ _ s
  refine wpAny_bind (wpAny_setField ho hd (by simp) ?_)
  have hit' : (s.heap.update it (Obj.mapFields (·.setIfInBounds 1 (rawInt ((i : Int) + 1))))).IsKeyIter it d (i + 1) es.size ep :=
    ⟨_, Heap.get?_update_self _ ho (Obj.isFreed_of_fields (Obj.data_mapFields hd _)), (Obj.cls_mapFields ..).trans hc, by rw [Obj.data_mapFields hd]; simp [rawInt]⟩
  refine wpAny_bind (wpAny_holding ?_)
  refine wpAny_bind (wpAny_isOneOf_keyiter (s := { s with heap := s.heap.update it (Obj.mapFields (·.setIfInBounds 1 (rawInt ((i : Int) + 1)))) }) hit'.typeIs ?_)
  show wpAny _ _ (pure es[i].key) _ _ _
  exact wpAny_pure (wpAny_pure ⟨_, rfl, wpAny_pure (hQ _ hit' (Heap.SameBut.update ..))⟩)
theorem pyNext_noKey {it d : Addr} {i ep : Nat} {es : Array DictEntry} {Q : Option Value → Shared → Prop} (hh : A.handled = none) (hit : s.heap.IsKeyIter it d i es.size ep) (hod : s.heap.get? d = some (dO es ep)) (hge : es.size ≤ i)
    (hQ : ∀ h', Heap.ExtBut it s.heap h' → Q none { s with heap := h' }) : wpAny (model prog w) A (pyNext (.ref it)) Q E s := by
  obtain ⟨o, ho, hc, hd⟩ := id hit
  unfold pyNext
  refine wpAny_bind (wpAny_attempt (wpAny_callSpecial?_slot (name := Str.ofString "__next__") hit.typeIs PySem.F.slot_dict_keyiterator_next
    (wpAny_call_entry PySem.F.slot_dict_keyiterator_next hit.typeIs PySem.F.entry_dict_keyiterator_next ?_ (PySem.F.args_dict_keyiterator_next_1 _))))
  refine wpAny_bind (wpAny_pure ?_)
  refine wpAny_bind ?_
  refine wpAny_bind ?_
  first | refine wpAny_bind (wpAny_typeNameOfWhole_keyiter hit.typeIs (wpAny_pure ?_)) | refine wpAny_bind (wpAny_typeNameOf_keyiter hit.typeIs (wpAny_pure ?_))
  refine wpAny_bind (wpAny_fieldsOf ho hd ?_)
  rw [if_neg (by decide)]
  show wpAny _ _ (if (Value.ref d == Value.none) = true then _ else _) _ _ s
  rw [if_neg (show ¬ ((Value.ref d == Value.none) = true) from Bool.false_ne_true)]
  refine wpAny_bind (wpAny_pure ?_)
  refine wpAny_bind (wpAny_dictEntries hod rfl ?_)
  rw [if_neg (by simp)]
  refine wpAny_bind (wpAny_pure ?_)
  refine wpAny_bind (wpAny_dictEpoch hod rfl ?_)
  rw [if_neg (by simp)]
  refine wpAny_pure ?_
  dsimp only
  rw [if_neg (Int.not_lt.mpr (Int.natCast_nonneg i)), Int.toNat_natCast, Array.getElem?_eq_none hge]
  refine wpAny_bind ?_
  first | refine wpAny_bind (wpAny_typeNameOfWhole_keyiter hit.typeIs (wpAny_pure ?_)) | refine wpAny_bind (wpAny_typeNameOf_keyiter hit.typeIs (wpAny_pure ?_))
  show wpAny _ _ (setField (.ref it) 0 .none >>= _) _ _ s
  refine wpAny_bind (wpAny_setField ho hd (by simp) ?_)
  show wpAny _ _ (newExc (.type "StopIteration") [] >>= _) _ _ _
  refine wpAny_bind ?_
  simp only [newExc, newTuple]
  refine wpAny_bind (wpAny_newObj_type ?_ (by size_fits))
  refine wpAny_bind (m := firstArgMember _ _) (wpAny_of_eq (a := Value.none) (by first | rfl | (simp only [firstArgMember]; rfl)) ?_)
  refine wpAny_newObj_type ?_ (by size_fits)
  unfold raiseNew
  refine wpAny_bind (wpAny_handled ?_)
  rw [show A.in1.handled = none from hh]
  refine wpAny_bind (wpAny_pure (wpAny_throw ?_))
  refine wpAny_bind (wpAny_isInstance (T := "StopIteration") (b := true) ⟨_, Heap.get?_push_size _ rfl, rfl⟩ isSubtype_stop ?_)
  exact wpAny_pure (hQ _ (((Heap.SameBut.update ..).extBut.push _).push _))
theorem walksKeys (hh : A.handled = none) (I d : Addr) (hne : d ≠ I) (es : Array DictEntry) (ep : Nat) :
    Walks prog w A I [I, d] [I] es.size (fun i v => ∃ e, es[i]? = some e ∧ v = e.key) (fun i h => h.IsKeyIter I d i es.size ep ∧ h.get? d = some (dO es ep)) where
  sub := fun b hb => by simp at hb; simp [hb]
  frame := fun _ _ _ st hk => ⟨st.1.at fun o e => hk I (by simp) o e, hk d (by simp) _ st.2⟩
  item := fun i s Q E hi st hQ => pyNext_key st.1 st.2 hi fun h' hit' hs' =>
    hQ _ h' s.toks ⟨es[i], Array.getElem?_eq_getElem hi, rfl⟩ ⟨hit', (hs'.2 d hne).trans st.2⟩ fun b o hb e => hs'.extBut b o (fun h => hb (by simp [h])) e
  done := fun s Q E st hQ => pyNext_noKey hh st.1 st.2 (Nat.le_refl _) fun h' he' => hQ h' s.toks fun b o hb e => he' b o (fun h => hb (by simp [h])) e
  self := fun _ _ _ _ st hQ => wpAny_pyIter_keyiter st.1 hQ
end

theorem keyInts {c : Cx} {fz : Led} {k : List Int} {vs : List Value} (h : ItemsAre (intKind c.prog c.w) k vs) : RA c fz vs (k.map .int) := by
  induction h with
  | nil => exact .nil
  | cons hk _ ih =>
    obtain ⟨t, rfl⟩ := Value.isInt_shape hk
    exact .cons (.int _ _) ih
theorem RD.keys {c : Cx} {fz : Led} {xs : List (List Int × Addr × Value)} {ds : List (List Int × PV)} (h : RD c fz xs ds) : xs.map (·.1) = ds.map (·.1) :=
  h.ind (P := fun xs ds => xs.map (·.1) = ds.map (·.1)) rfl fun _ _ i => congrArg (List.cons _) i
section
variable {c : Cx} {k : Nat} {sc : SC} {ρ : Rho} {μ : Mu} {env : Env} {X fz fz₁ : Led} {s : Shared} {A : Around} {E : Value → Shared → Prop}

theorem pyIter_items {v : Value} {pv : PV} {items : List PV} (hi : Items pv = some items) (r : R c fz v pv) (hf : ∀ b o, fz b = some o → s.heap.get? b = some o) (hh : A.handled = none) {P : Value → Shared → Prop}
    (K : ∀ fp n Pv St o, Walks c.prog c.w A s.heap.objs.size fp [s.heap.objs.size] n Pv St → St 0 (s.heap.push o) → n = items.length → (∀ i v, i < n → Pv i v → ∃ p, items[i]? = some p ∧ R c fz v p) →
      (∀ b ∈ fp, b ≠ s.heap.objs.size → ∃ o, fz b = some o) → o.isFreed = false → (∀ i h, St i h → ∃ o, h.get? s.heap.objs.size = some o) → P (.ref s.heap.objs.size) { s with heap := s.heap.push o }) : wpAny c.M A (pyIter v) P E s := by
  cases r <;> try (cases hi; done)
  · rename_i a vs n l ha ra
    cases hi
    have hlt := Heap.lt_size (hf _ _ ha)
    have hl : s.heap.IsList a vs.toArray := ⟨_, hf _ _ ha, rfl, _, rfl⟩
    refine wpAny_pyIter_list hl (K _ _ _ _ _ (Walks.list hh s.heap.objs.size a (Nat.ne_of_lt hlt) vs.toArray) ⟨⟨_, Heap.get?_push_size _ rfl, rfl, rfl⟩, hl.push _⟩ (by rw [List.size_toArray, ra.length]) (fun i v hi hv => ?_) (fun b hb hne => ?_) rfl fun i h x => let ⟨o, e, _⟩ := x.1; ⟨o, e⟩)
    · rw [List.size_toArray, ra.length] at hi
      obtain ⟨w, p1, p2⟩ := ra.get (List.getElem?_eq_getElem hi)
      simp only [List.getElem?_toArray] at hv
      rw [p1] at hv; cases hv
      exact ⟨_, List.getElem?_eq_getElem hi, p2⟩
    · simp only [List.mem_cons, List.not_mem_nil, or_false] at hb
      rcases hb with rfl | rfl
      · exact absurd rfl hne
      · exact ⟨_, ha⟩
  · rename_i a vs n l ha ra
    cases hi
    have hlt := Heap.lt_size (hf _ _ ha)
    have hl : s.heap.IsTuple a vs.toArray := ⟨_, hf _ _ ha, rfl, _, rfl⟩
    refine wpAny_pyIter_tuple hl (K _ _ _ _ _ (Walks.tuple hh s.heap.objs.size a (Nat.ne_of_lt hlt) vs.toArray) ⟨⟨_, Heap.get?_push_size _ rfl, rfl, rfl⟩, hl.push _⟩ (by rw [List.size_toArray, ra.length]) (fun i v hi hv => ?_) (fun b hb hne => ?_) rfl fun i h x => let ⟨o, e, _⟩ := x.1; ⟨o, e⟩)
    · rw [List.size_toArray, ra.length] at hi
      obtain ⟨w, p1, p2⟩ := ra.get (List.getElem?_eq_getElem hi)
      simp only [List.getElem?_toArray] at hv
      rw [p1] at hv; cases hv
      exact ⟨_, List.getElem?_eq_getElem hi, p2⟩
    · simp only [List.mem_cons, List.not_mem_nil, or_false] at hb
      rcases hb with rfl | rfl
      · exact absurd rfl hne
      · exact ⟨_, ha⟩
  · rename_i a es n xs ds ha hsys he hkeys hnd rd
    cases hi
    have hod := hf _ _ ha
    have hlt := Heap.lt_size hod
    have hsz : es.size = xs.length := by rw [← Array.length_toList, he, List.length_map]
    have hlen : xs.length = ds.length := by have := congrArg List.length rd.keys; simpa using this
    refine pyIter_keys hsys hod (K _ _ _ _ _ (walksKeys hh s.heap.objs.size a (Nat.ne_of_lt hlt) es n) ⟨⟨_, Heap.get?_push_size _ rfl, rfl, rfl⟩, Heap.get?_push_of_some _ hod⟩ (by rw [hsz, hlen]; simp) (fun i v hi hv => ?_) (fun b hb hne => ?_) rfl fun i h x => let ⟨o, e, _⟩ := x.1; ⟨o, e⟩)
    · obtain ⟨e, h1, rfl⟩ := hv
      rw [← Array.getElem?_toList, he, List.getElem?_map] at h1
      obtain ⟨x, hx, rfl⟩ := Option.map_eq_some_iff.mp h1
      obtain ⟨vs, m, p1, p2⟩ := hkeys x (List.mem_of_getElem? hx)
      have hk : (ds.map (·.1))[i]? = some x.1 := by rw [← rd.keys, List.getElem?_map, hx]; rfl
      rw [List.getElem?_map] at hk
      obtain ⟨y, hy, hxy⟩ := Option.map_eq_some_iff.mp hk
      exact ⟨.tuple (x.1.map .int), by rw [List.getElem?_map, hy, ← hxy]; rfl, .tuple p1 (keyInts p2)⟩
    · simp only [List.mem_cons, List.not_mem_nil, or_false] at hb
      rcases hb with rfl | rfl
      · exact absurd rfl hne
      · exact ⟨_, ha⟩
  · rename_i a lo hi' st t u v ha
    by_cases hsm : Builtin.Range.small lo hi' st = true ∧ 0 ≤ Builtin.Range.rangeSize lo hi' st
    · cases (if_pos hsm).symm.trans hi
      refine wpAny_pyIter_range (hf _ _ ha) hsm.1 (K _ _ _ _ _ (Walks.range hh s.heap.objs.size lo st (rngN lo hi' st)) ?_ (by simp [rngItems]) (fun i v hi hv => ?_) (fun b hb hne => absurd (List.mem_singleton.mp hb) hne) rfl fun i h x => ⟨_, x⟩)
      · have e1 : lo + ((0 : Nat) : Int) * st = lo := by simp
        have e2 : ((rngN lo hi' st : Nat) : Int) - ((0 : Nat) : Int) = Builtin.Range.rangeSize lo hi' st := by unfold rngN; rw [Int.toNat_of_nonneg hsm.2]; simp
        rw [e1, e2]
        exact Heap.get?_push_size _ rfl
      · obtain ⟨t, rfl⟩ := hv
        exact ⟨.int (lo + (i : Int) * st), by simp [rngItems, List.getElem?_map, List.getElem?_range hi], .int _ _⟩
    · cases (if_neg hsm).symm.trans hi

noncomputable def Rho.Le (ρ' ρ : Rho) : Prop := ∀ p ∈ ρ', ρ.lookup p.1 = some p.2
theorem Rho.Le.le {ρ' ρ : Rho} (h : Rho.Le ρ' ρ) : Rho.le ρ' ρ := fun x v e => h (x, v) (mem_of_lookup e)
theorem WSs.weak {st : List Stmt} {ρ' : Rho} {μ' : Mu} {Q : PPost} (h : WSs c k sc ρ' μ' st Q) (hr : Rho.le ρ' ρ) (hm : Mu.le μ' μ) : WSs c k sc ρ μ st Q := fun A env X fz s E r S => h A env X fz s E r (S.weak hr hm)
theorem WA.weak {t : Expr} {v : PV} {ρ' : Rho} {μ' : Mu} {Q : Rho → Mu → Prop} (h : WA c k sc ρ' μ' t v Q) (hr : Rho.le ρ' ρ) (hm : Mu.le μ' μ) : WA c k sc ρ μ t v Q := fun A env X fz s E r rm rr S => h A env X fz s E r rm rr (S.weak hr hm)

noncomputable def notSet (e : Expr) : Bool := e.ctorIdx != 7
noncomputable abbrev kBody (Inv : Nat → Rho → Mu → Prop) (i : Nat) (Q : PPost) : PPost := fun f ρ₃ μ₃ => match f with
  | .next | .cont => Inv (i + 1) ρ₃ μ₃
  | .brk => Q .next ρ₃ μ₃
  | .ret v => Q (.ret v) ρ₃ μ₃
inductive KFor (c : Cx) (k : Nat) (sc : SC) (ρ : Rho) (x : Str) (px : Pos) (body : List Stmt) (Q : PPost) (v : PV) (μ₁ : Mu) : Prop
  | mk (items : List PV) (Inv : Nat → Rho → Mu → Prop) : Items v = some items → Inv 0 ρ μ₁ → (∀ i p ρ' μ', items[i]? = some p → Inv i ρ' μ' → WA c k sc ρ' μ' (.Name x px) p (fun ρ₂ μ₂ => WSs c k sc ρ₂ μ₂ body (kBody Inv i Q))) →
      (∀ ρ' μ', Inv items.length ρ' μ' → Q .next ρ' μ') → KFor c k sc ρ x px body Q v μ₁
inductive FInv (c : Cx) (env : Env) (sc : SC) (X fz₁ : Led) (Inv : Nat → Rho → Mu → Prop) (n : Nat) (I : Addr) (St : Nat → Heap → Prop) (m : Nat) (s' : Shared) : Prop
  | mk (i : Nat) (ρ' : Rho) (μ' : Mu) (fz' : Led) : m = n - i → i ≤ n → Inv i ρ' μ' → Led.le fz₁ fz' → Sim c env sc X fz' ρ' μ' s' → fz' I = none → μ' I = none → St i s'.heap → FInv c env sc X fz₁ Inv n I St m s'
structure Far (env : Env) (own : List Str) (X : Led) (a : Addr) : Prop where
  x : X a = none
  l : a ≠ env.locals
  c : ∀ y ∈ own, env.cells.lookup y ≠ some a
theorem Sim.far {a : Addr} (S : Sim c env sc X fz ρ μ s) (h : s.heap.objs.size ≤ a) : Far env sc.own X a :=
  ⟨Led.fresh S.x.ex h, Nat.ne_of_gt (Nat.lt_of_lt_of_le S.e.lt_loc h), fun y hy e => Nat.not_lt.mpr h (S.e.lt_cells hy e)⟩
structure It (c : Cx) (A : Around) (fz₁ : Led) (items : List PV) (I : Addr) (fp : List Addr) (n : Nat) (Pv : Nat → Value → Prop) (St : Nat → Heap → Prop) : Prop where
  W : Walks c.prog c.w A I fp [I] n Pv St
  hn : n = items.length
  hP : ∀ i v, i < n → Pv i v → ∃ p, items[i]? = some p ∧ R c fz₁ v p
  hfp : ∀ b ∈ fp, b ≠ I → ∃ o, fz₁ b = some o
  hlive : ∀ i h, St i h → ∃ o, h.get? I = some o
theorem pyIter_It {v : Value} {pv : PV} {items : List PV} (hi : Items pv = some items) (r : R c fz v pv) (S : Sim c env sc X fz ρ μ s) (hh : A.handled = none) {P : Value → Shared → Prop}
    (K : ∀ fp n Pv St o I, s.heap.objs.size = I → It c A fz items I fp n Pv St → St 0 (s.heap.push o) → Far env sc.own X I → fz I = none → μ I = none → P (.ref I) { s with heap := s.heap.push o }) : wpAny c.M A (pyIter v) P E s :=
  pyIter_items hi r S.x.ef hh fun fp n Pv St o W hst hn hP hfp _ hl => K fp n Pv St o _ rfl ⟨W, hn, hP, hfp, hl⟩ hst (S.far (Nat.le_refl _)) (Led.fresh S.x.ef (Nat.le_refl _)) (Mu.fresh S.x (Nat.le_refl _))
section
variable {items : List PV} {I : Addr} {fp : List Addr} {n : Nat} {Pv : Nat → Value → Prop} {St : Nat → Heap → Prop} {fz₁ : Led}
theorem It.item (T : It c A fz₁ items I fp n Pv St) {i : Nat} {Q : Option Value → Shared → Prop} (hlt : i < n) (hst : St i s.heap) (S : Sim c env sc X fz ρ μ s) (le : Led.le fz₁ fz) (F : Far env sc.own X I) (hf : fz I = none) (hm : μ I = none)
    (K : ∀ v p h' tk oI, items[i]? = some p → R c fz v p → Sim c env sc X fz ρ μ { s with heap := h', toks := tk } → St (i + 1) h' → (∀ b o, b ≠ I → s.heap.get? b = some o → h'.get? b = some o) → h'.get? I = some oI → Q (some v) { s with heap := h', toks := tk }) : wpAny c.M A (pyNext (.ref I)) Q E s :=
  T.W.item i _ _ _ hlt hst fun v h' tk hPv hst'' hk =>
    have hk' : ∀ b o, b ≠ I → s.heap.get? b = some o → h'.get? b = some o := fun b o hb e => hk b o (fun q => hb (List.mem_singleton.mp q)) e
    (T.hP i v hlt hPv).elim fun p hp => (T.hlive _ _ hst'').elim fun oI ho => K v p h' tk oI hp.1 (hp.2.mono le) (S.keepNe rfl rfl hk' F.x hf hm F.l F.c) hst'' hk' ho
theorem It.done (T : It c A fz₁ items I fp n Pv St) {i : Nat} {Q : Option Value → Shared → Prop} (hin : i ≤ n) (hlt : ¬ i < n) (hst : St i s.heap) (S : Sim c env sc X fz ρ μ s) (F : Far env sc.own X I) (hf : fz I = none) (hm : μ I = none)
    (K : ∀ h' tk, i = items.length → Sim c env sc X fz ρ μ { s with heap := h', toks := tk } → (∀ b o, b ≠ I → s.heap.get? b = some o → h'.get? b = some o) → Q none { s with heap := h', toks := tk }) : wpAny c.M A (pyNext (.ref I)) Q E s :=
  have hie : i = n := Nat.le_antisymm hin (Nat.not_lt.mp hlt)
  T.W.done _ _ _ (hie ▸ hst : St n s.heap) fun h' tk hk =>
    have hk' : ∀ b o, b ≠ I → s.heap.get? b = some o → h'.get? b = some o := fun b o hb e => hk b o (fun q => hb (List.mem_singleton.mp q)) e
    K h' tk (hie.trans T.hn) (S.keepNe rfl rfl hk' F.x hf hm F.l F.c) hk'
theorem It.stay (T : It c A fz₁ items I fp n Pv St) {j : Nat} {h' : Heap} {oI : Obj} {X' fz₅ : Led} {μ₅ : Mu} {s₅ : Shared} (hst : St j h') (hef : ∀ b o, fz b = some o → h'.get? b = some o) (le : Led.le fz₁ fz) (ho : h'.get? I = some oI) (hY : X' I = some oI)
    (l5 : Led.le fz fz₅) (S₅ : SimX c X' fz₅ μ₅ s₅) : St j s₅.heap :=
  T.W.frame _ _ _ hst fun b hb o e => by
    by_cases hbI : b = I
    · exact hbI ▸ (S₅.ex _ _ hY).trans ((ho.symm.trans (hbI ▸ e)))
    · exact (T.hfp b hb hbI).elim fun o' ho' => (S₅.ef b _ (l5 _ _ (le _ _ ho'))).trans ((hef b o' (le _ _ ho')).symm.trans e)
end
theorem WS_For {x : Str} {px pos : Pos} {iter : Expr} {body : List Stmt} {Q : PPost} (hfs : notSet iter = true)
    (h : WE c k sc ρ μ iter (KFor c k sc ρ x px body Q)) : WS c k sc ρ μ (.For (.Name x px) iter body [] pos) Q := fun A env X fz s E rm S => by
  refine wpAny_For (h.use S rm fun v pv μ₁ fz₁ s₁ h₁ rv l1 S₁ => ?_) ?_
  · obtain ⟨items, Inv, hi, i0, step, fin⟩ := h₁
    refine pyIter_It hi rv S₁ rm.1 fun fp n Pv St o I _ T hst F hIf hIm => ?_
    refine codeAny_forLoop (FInv c env sc X fz₁ Inv n I St) ?_ n ⟨0, ρ, μ₁, fz₁, rfl, Nat.zero_le _, i0, .refl _, S₁.push _ _, hIf, hIm, hst⟩
    rintro m s' ⟨i, ρ', μ', fz', hm0, hin, hinv, le, S', hf', hm', hst'⟩
    by_cases hlt : i < n
    · refine T.item hlt hst' S' le F hf' hm' fun v p h' tk oI hp rp S₃ hst'' _ ho => ?_
      have hY : others env sc.own h' fz' μ' I = some oI := others_of F.l F.c (rest_of ho hm' hf')
      refine (step i p ρ' μ' hp hinv).use S₃.all rm rp fun ρ₄ μ₄ fz₄ s₄ h₄ l4 S₄ => ?_
      refine h₄.use S₄ rm fun fl pf ρ₅ μ₅ fz₅ s₅ h₅ rf l5 S₅ => ?_
      have l45 := l4.trans l5
      have hfin : Sim c env sc X fz₅ ρ₅ μ₅ s₅ := S₃.lessX S₅ S₃.le_others
      have again : Inv (i + 1) ρ₅ μ₅ → ∃ m', m' < m ∧ FInv c env sc X fz₁ Inv n I St m' s₅ := fun hi =>
        ⟨n - (i + 1), hm0 ▸ Nat.sub_lt_sub_left hlt (Nat.lt_succ_self i), i + 1, ρ₅, μ₅, fz₅, rfl, hlt, hi, le.trans l45, hfin, S₅.x.xf _ _ hY, S₅.x.xm hY, T.stay hst'' S₃.x.ef le ho hY l45 S₅.x⟩
      cases rf with
      | next => exact again h₅
      | cont => exact again h₅
      | brk => exact ⟨_, ρ₅, μ₅, fz₅, h₅, .next, l1.trans (le.trans l45), hfin⟩
      | ret r => exact ⟨_, ρ₅, μ₅, fz₅, h₅, .ret r, l1.trans (le.trans l45), hfin⟩
    · exact T.done hin hlt hst' S' F hf' hm' fun h' tk hie S₃ _ => wpAny_execs_nil ⟨_, ρ', μ', fz', fin ρ' μ' (hie ▸ hinv), .next, l1.trans le, S₃⟩
  · intro x
    have : foldedSetIterable iter env x = pure x := by
      cases iter <;> first | rfl | cases hfs
    exact this
end
theorem relabel_scope (scope : Scope) (env : Env) : relabel scope env = relabel scope (env0 env.scope) := rfl
noncomputable def ownOf (scope : Scope) : List Str := (scope.names.filter (fun x => x.2 == .cell)).map (·.1)
noncomputable def innerSC (scope : Scope) (sc : SC) : SC := ⟨relabel scope (env0 sc.scope), ownOf scope⟩
noncomputable def compOk (scope : Scope) (sc : Scope) : Bool :=
  scope.kind == .function && sc.kind == .function && scope.names.all (fun (n, k) => decide (scope.names.lookup n = some k)) && scope.names.all (fun (n, k) => k != .free || (sc.names.lookup n == some .cell || sc.names.lookup n == some .free))

theorem lookup_map2 {f : Str × NameKind → Str × NameKind} (hf : ∀ x, (f x).1 = x.1) : ∀ {l : List (Str × NameKind)} {x : Str}, (l.map f).lookup x = (l.find? (fun y => x == y.1)).map (fun y => (f y).2)
  | [], x => rfl
  | y :: r, x => by
    rw [List.map_cons, List.find?_cons]
    obtain ⟨n, k⟩ := y
    have := hf (n, k)
    cases h : f (n, k) with
    | mk n' k' =>
      rw [h] at this
      simp only at this
      subst this
      rw [List.lookup_cons]
      cases hx : x == n' with
      | true => simp [h]
      | false => simp only; exact lookup_map2 hf
theorem lookup_find {l : List (Str × NameKind)} {x : Str} : l.lookup x = (l.find? (fun y => x == y.1)).map (·.2) := by
  have := lookup_map2 (f := id) (fun _ => rfl) (l := l) (x := x)
  rw [List.map_id] at this
  exact this
noncomputable def relK (sc : Scope) (n : Str) (k : NameKind) : NameKind := if (k == .free && sc.kind == .function && sc.names.lookup n == some .cell) then .cell else k
theorem relabel_lookup (scope : Scope) (sc : Scope) (x : Str) : (relabel scope (env0 sc)).names.lookup x = (scope.names.lookup x).map (relK sc x) := by
  unfold relabel
  show (List.map _ _).lookup x = _
  rw [lookup_map2 (fun y => by obtain ⟨n, k⟩ := y; dsimp only; split <;> rfl), lookup_find]
  cases hq : scope.names.find? (fun y => x == y.1) with
  | none => rfl
  | some y =>
    have := List.find?_some hq
    obtain ⟨n, k⟩ := y
    have hxn : x = n := by simpa using this
    subst hxn
    simp only [Option.map_some]
    show some (Prod.snd (if (k == .free && sc.kind == .function && sc.names.lookup x == some .cell) = true then (x, NameKind.cell) else (x, k))) = some (relK sc x k)
    unfold relK
    split <;> rfl

theorem cellsFrom_append : ∀ (names : List (Str × NameKind)) (n : Nat) (acc : List (Str × Addr)), cellsFrom n names acc = cellsFrom n names [] ++ acc := by
  intro names
  induction names with
  | nil => intro n acc; rfl
  | cons p r ih =>
    intro n acc
    unfold cellsFrom
    split
    · rw [ih (n + 1) ((p.1, n) :: acc), ih (n + 1) [(p.1, n)], List.append_assoc]; rfl
    · exact ih n acc
theorem cellsFrom_names : ∀ (names : List (Str × NameKind)) (n : Nat) (x : Str), (∃ a, (x, a) ∈ cellsFrom n names []) ↔ (x, NameKind.cell) ∈ names := by
  intro names
  induction names with
  | nil => exact fun n x => ⟨fun h => h.elim fun _ h => (nomatch h), fun h => (nomatch h)⟩
  | cons p r ih =>
    intro n x
    unfold cellsFrom
    split
    · rename_i hk
      rw [cellsFrom_append]
      exact ⟨fun h => h.elim fun a h => (List.mem_append.mp h).elim (fun h => .tail _ ((ih (n + 1) x).mp ⟨a, h⟩)) fun h => by rw [(Prod.mk.inj (List.mem_singleton.mp h)).1, ← beq_iff_eq.mp hk]; exact .head _,
        fun h => (List.mem_cons.mp h).elim (fun h => ⟨n, List.mem_append.mpr (.inr (h ▸ .head _))⟩) fun h => ((ih (n + 1) x).mpr h).elim fun a h => ⟨a, List.mem_append.mpr (.inl h)⟩⟩
    · rename_i hk
      exact (ih n x).trans ⟨.tail _, fun h => (List.mem_cons.mp h).elim (fun h => absurd (by rw [← h]; rfl) hk) id⟩
theorem lookup_of_mem {l : List (Str × Addr)} {x : Str} {a : Addr} (h : (x, a) ∈ l) : ∃ b, l.lookup x = some b := by
  induction l with
  | nil => cases h
  | cons y r ih =>
    obtain ⟨n, b⟩ := y
    rw [List.lookup_cons]
    cases hx : x == n with
    | true => exact ⟨b, rfl⟩
    | false =>
      rcases List.mem_cons.mp h with e | h
      · cases e; simp at hx
      · exact ih h

section
variable {c : Cx} {k : Nat} {sc : SC} {ρ : Rho} {μ : Mu} {env : Env} {X fz fz₁ : Led} {s : Shared} {A : Around} {E : Value → Shared → Prop}

theorem closureFor_of {scope : Scope} (h : ∀ x, (x, NameKind.free) ∈ scope.names → ∃ a, env.cells.lookup x = some a) :
    ∃ cl, closureFor scope env = pure cl ∧ ∀ x, (x, NameKind.free) ∈ scope.names → cl.lookup x = env.cells.lookup x := by
  have key : ∀ (f : Str × NameKind → List (Str × Addr) → Sem (ForInStep (List (Str × Addr)))), (∀ name kind cs, f (name, kind) cs = if kind == .free then (do let a ← cellOf env name; pure (.yield ((name, a) :: cs))) else pure (.yield cs)) →
      ∀ (names : List (Str × NameKind)) (acc : List (Str × Addr)), (∀ x, (x, NameKind.free) ∈ names → ∃ a, env.cells.lookup x = some a) → (∀ y a, (y, a) ∈ acc → env.cells.lookup y = some a) →
      ∃ cl, forIn names acc f = (pure cl : Sem _) ∧
        (∀ y a, (y, a) ∈ cl → env.cells.lookup y = some a) ∧ (∀ y a, (y, a) ∈ acc → (y, a) ∈ cl) ∧ (∀ x, (x, NameKind.free) ∈ names → ∃ a, (x, a) ∈ cl) := by
    intro f hf
    intro names
    induction names with
    | nil => intro acc _ hacc; exact ⟨acc, rfl, hacc, fun _ _ h => h, fun _ h => nomatch h⟩
    | cons y r ih =>
      intro acc hn hacc
      obtain ⟨n, kd⟩ := y
      rw [List.forIn_cons, hf]
      cases hk : kd == NameKind.free with
      | true =>
        have : kd = .free := by simpa using hk
        subst this
        obtain ⟨a, ha⟩ := hn n List.mem_cons_self
        obtain ⟨cl, e, h1, h2, h3⟩ := ih ((n, a) :: acc) (fun x hx => hn x (List.mem_cons_of_mem _ hx)) (fun y b hb => by
          rcases List.mem_cons.mp hb with e | hb
          · cases e; exact ha
          · exact hacc y b hb)
        refine ⟨cl, ?_, h1, fun y b hb => h2 y b (List.mem_cons_of_mem _ hb), fun x hx => ?_⟩
        · have e2 : cellOf env n = pure a := by unfold cellOf; rw [ha]
          simp only [if_true, e2, pure_bind]
          exact e
        · rcases List.mem_cons.mp hx with e | hx
          · cases e; exact ⟨a, h2 _ _ List.mem_cons_self⟩
          · exact h3 x hx
      | false =>
        obtain ⟨cl, e, h1, h2, h3⟩ := ih acc (fun x hx => hn x (List.mem_cons_of_mem _ hx)) hacc
        refine ⟨cl, ?_, h1, h2, fun x hx => ?_⟩
        · simp only [Bool.false_eq_true, if_false, pure_bind]
          exact e
        · rcases List.mem_cons.mp hx with e | hx
          · cases e; simp at hk
          · exact h3 x hx
  have main : ∀ (f : Str × NameKind → List (Str × Addr) → Sem (ForInStep (List (Str × Addr)))), (∀ name kind cs, f (name, kind) cs = if kind == .free then (do let a ← cellOf env name; pure (.yield ((name, a) :: cs))) else pure (.yield cs)) →
      ∃ cl, (forIn scope.names [] f >>= fun cs => pure cs) = (pure cl : Sem _) ∧ ∀ x, (x, NameKind.free) ∈ scope.names → cl.lookup x = env.cells.lookup x := by
    intro f hf
    obtain ⟨cl, e, h1, _, h3⟩ := key f hf scope.names [] h (fun _ _ h => nomatch h)
    refine ⟨cl, by rw [e]; rfl, fun x hx => ?_⟩
    obtain ⟨a, ha⟩ := h3 x hx
    obtain ⟨b, hb⟩ := lookup_of_mem ha
    rw [hb, h1 x b (mem_of_lookup hb)]
  unfold closureFor
  refine main _ (fun name kind cs => ?_)
  cases hk : kind == NameKind.free <;> simp [hk]

theorem newEnv_comp {M : Model} {scope : Scope} {globals : Addr} {cl : List (Str × Addr)} {qual : Str} {Q : Env → Shared → Prop}
    (hQ : Q { scope, locals := s.heap.objs.size, globals, cells := cellsFrom (s.heap.objs.size + 1) scope.names cl, qual, func := none, code := env.code, frame := env.frame, builtins := env.builtins }
      { s with heap := pushCells (s.heap.push { cls := .type "dict", data := .dict #[] }) scope.names }) : wpAny M A (newFunctionEnv scope globals cl [] qual none .none (some env)) Q E s := by
  simp only [newFunctionEnv, Option.isSome_some, if_true]
  refine wpAny_bind (wpAny_alloc ?_)
  refine wpAny_bind (wpAny_layCells _ (fun name kind cells => by cases hkc : kind == NameKind.cell <;> simp [hkc]) _ _ _ _ ?_)
  refine wpAny_bind ?_
  rw [List.forIn_nil]
  refine wpAny_pure (wpAny_pure ?_)
  dsimp only
  rw [Heap.size_push]
  exact hQ

noncomputable def subOf (ρ : Rho) (ns : Str → Bool) : Rho → Option Rho
  | [] => some []
  | (x, _) :: r => (ρ.lookup x).bind fun v => (subOf ρ ns r).bind fun r' => bif ns x then some ((x, v) :: r') else none
theorem subOf_at {ρ : Rho} {ns : Str → Bool} : ∀ {ρi : Rho}, subOf ρ ns ρi = some ρi → ∀ p ∈ ρi, ρ.lookup p.1 = some p.2 ∧ ns p.1 = true := by
  intro ρi
  induction ρi with
  | nil => exact fun _ p e => nomatch e
  | cons x r ih =>
    intro h p e
    obtain ⟨v, h1, h⟩ := Option.bind_eq_some_iff.mp h
    obtain ⟨r', h2, h⟩ := Option.bind_eq_some_iff.mp h
    cases q : ns x.1 with
    | false => rw [q] at h; exact nomatch h
    | true =>
      rw [q] at h
      have h := List.cons.inj (Option.some.inj h)
      exact (List.mem_cons.mp e).elim (fun e => e ▸ ⟨h1.trans (congrArg some (congrArg Prod.snd h.1)), q⟩) (ih (h.2 ▸ h2) p)
noncomputable def isFree (scope : Scope) (x : Str) : Bool := match scope.names.lookup x with | some .free => true | _ => false
noncomputable def FrC (_ scope : Scope) (ρ ρi : Rho) : Prop := subOf ρ (isFree scope) ρi = some ρi
theorem FrC.at {sc scope : Scope} {ρ ρi : Rho} (h : FrC sc scope ρ ρi) {x : Str} {v : PV} (e : ρi.lookup x = some v) : ρ.lookup x = some v ∧ scope.names.lookup x = some .free := by
  obtain ⟨a, b⟩ := subOf_at h _ (mem_of_lookup e)
  refine ⟨a, ?_⟩
  unfold isFree at b
  split at b
  · assumption
  · cases b
noncomputable def compEnvG (scope : Scope) (cl : List (Str × Addr)) (C : Addr) (env : Env) : Env :=
  { scope := relabel scope env, locals := C, globals := env.globals, cells := cellsFrom (C + 1) scope.names cl, qual := env.qual, func := none, code := env.code, frame := env.frame, builtins := env.builtins }

theorem ownOf_mem {scope : Scope} {x : Str} : x ∈ ownOf scope ↔ (x, NameKind.cell) ∈ scope.names := by
  unfold ownOf
  simp only [List.mem_map, List.mem_filter]
  constructor
  · rintro ⟨⟨n, k⟩, ⟨h1, h2⟩, rfl⟩
    have : k = .cell := by simpa using h2
    subst this; exact h1
  · intro h; exact ⟨(x, .cell), ⟨h, rfl⟩, rfl⟩

theorem Sim.inner {scope : Scope} {cl : List (Str × Addr)} {ρi : Rho} {H : Heap} (S : Sim c env sc X fz ρ μ s) (hc : compOk scope sc.scope = true)
    (hcl : ∀ x, (x, NameKind.free) ∈ scope.names → cl.lookup x = env.cells.lookup x) (hρ : FrC sc.scope scope ρ ρi) (hH : ∀ b o, s.heap.get? b = some o → H.get? b = some o) (hlo : s.heap.objs.size ≤ H.objs.size) (tk : Nat) :
    Sim c (compEnvG scope cl H.objs.size env) (innerSC scope sc) (rest s.heap fz μ) fz ρi μ { s with heap := pushCells (H.push { cls := .type "dict", data := .dict #[] }) scope.names, toks := tk } := by
  unfold compOk at hc
  simp only [Bool.and_eq_true, List.all_eq_true, decide_eq_true_eq, beq_iff_eq] at hc
  obtain ⟨⟨⟨hk, hko⟩, hall⟩, hfree⟩ := hc
  have hkeep : ∀ b o, s.heap.get? b = some o → (pushCells (H.push { cls := .type "dict", data := .dict #[] }) scope.names).get? b = some o := fun b o e => pushCells_keeps _ _ b o (Heap.get?_push_of_some _ (hH b o e))
  have ok := cellsFrom_ok scope.names (H.push { cls := .type "dict", data := .dict #[] }) (H.objs.size + 1) [] ⟨fun _ _ hm => (nomatch hm), List.Pairwise.nil⟩ (by rw [Heap.size_push]; exact Nat.le_refl _)
  rw [Heap.size_push] at ok
  have hcells : (compEnvG scope cl H.objs.size env).cells = cellsFrom (H.objs.size + 1) scope.names [] ++ cl := cellsFrom_append _ _ _
  have hkind : ∀ x, (compEnvG scope cl H.objs.size env).kindOf x = (scope.names.lookup x).map (relK sc.scope x) := fun x => by
    show (relabel scope env).names.lookup x = _
    rw [relabel_scope, S.ok.scope, relabel_lookup]
  have hlk : ∀ {x kd}, scope.names.lookup x = some kd → (x, kd) ∈ scope.names := fun {x kd} e => by
    rw [lookup_find] at e
    obtain ⟨y, hy, e'⟩ := Option.map_eq_some_iff.mp e
    have h1 := List.find?_some hy
    obtain ⟨n, k'⟩ := y
    have : x = n := by simpa using h1
    subst this
    simp only at e'; subst e'
    exact List.mem_of_find?_eq_some hy
  have hfl : ∀ {x}, (x, NameKind.free) ∈ scope.names → (compEnvG scope cl H.objs.size env).cells.lookup x = env.cells.lookup x := fun {x} hx => by
    rw [hcells, List.lookup_append, ← hcl x hx]
    have : (cellsFrom (H.objs.size + 1) scope.names []).lookup x = none := by
      cases q : (cellsFrom (H.objs.size + 1) scope.names []).lookup x with
      | none => rfl
      | some a =>
        have h1 := (cellsFrom_names scope.names (H.objs.size + 1) x).mp ⟨a, mem_of_lookup q⟩
        have h2 := hall _ h1
        have h3 := hall _ hx
        simp only at h2 h3
        rw [h2] at h3; cases h3
    rw [this]; rfl
  have hok : ∀ {x}, (x, NameKind.free) ∈ scope.names → env.kindOf x = some .cell ∨ env.kindOf x = some .free := fun {x} hx => by
    have := hfree _ hx
    simp only [bne_self_eq_false, Bool.false_or, Bool.or_eq_true, beq_iff_eq] at this
    rcases this with h | h
    · exact .inl (S.kind h)
    · exact .inr (S.kind h)
  have hcase : ∀ {x}, ((compEnvG scope cl H.objs.size env).kindOf x = some .cell ∨ (compEnvG scope cl H.objs.size env).kindOf x = some .free) → x ∈ ownOf scope ∨ (x, NameKind.free) ∈ scope.names := fun {x} e => by
    rw [hkind] at e
    cases q : scope.names.lookup x with
    | none => rw [q] at e; rcases e with e | e <;> cases e
    | some kd =>
      have hm := hlk q
      rw [q] at e
      simp only [Option.map_some, Option.some.injEq] at e
      cases kd with
      | cell => exact .inl (ownOf_mem.mpr hm)
      | free => exact .inr hm
      | «local» => exfalso; unfold relK at e; simp at e
      | globalExplicit => exfalso; unfold relK at e; simp at e
      | globalImplicit => exfalso; unfold relK at e; simp at e
  have newc : ∀ {x}, x ∈ ownOf scope → ∃ a, (compEnvG scope cl H.objs.size env).cells.lookup x = some a ∧ (x, a) ∈ cellsFrom (H.objs.size + 1) scope.names [] := fun {x} hx => by
    obtain ⟨a, ha⟩ := (cellsFrom_names scope.names (H.objs.size + 1) x).mpr (ownOf_mem.mp hx)
    obtain ⟨b, hb⟩ := lookup_of_mem ha
    refine ⟨b, ?_, mem_of_lookup hb⟩
    rw [hcells, List.lookup_append, hb]; rfl
  have fresh : ∀ {a}, H.objs.size ≤ a → rest s.heap fz μ a = none ∧ fz a = none ∧ μ a = none := fun {a} ha => by
    have h1 := Mu.fresh S.x (Nat.le_trans hlo ha)
    have h2 := Led.fresh S.x.ef (Nat.le_trans hlo ha)
    refine ⟨?_, h2, h1⟩
    cases q : rest s.heap fz μ a with
    | none => rfl
    | some o => exact absurd (Heap.lt_size (rest_some q).1) (Nat.not_lt.mpr (Nat.le_trans hlo ha))
  refine ⟨S.x.all.keep rfl rfl hkeep, ⟨?_, ?_, fun x v e q => ?_, fun x e hx => ?_, fun x hx => ?_, fun x y a hx hy e1 e2 => ?_, fun x hx => ?_⟩, ⟨?_, ?_, S.ok.glob, S.ok.blt⟩⟩
  · refine ⟨fun _ => none, (Heap.Ns.new H (.type "dict")).keeps (pushCells_keeps _ _), fun x v e q => ?_⟩
    obtain ⟨_, h2⟩ := hρ.at q
    rw [hkind, h2] at e
    simp only [Option.map_some, Option.some.injEq] at e
    unfold relK at e
    split at e <;> cases e
  · exact fresh (Nat.le_refl _)
  · obtain ⟨h1, h2⟩ := hρ.at q
    have hm := hlk h2
    obtain ⟨a, r, p1, p2, p3⟩ := S.e.cells x v (hok hm) h1
    exact ⟨a, r, (hfl hm).trans p1, p2.keeps hkeep, p3⟩
  · rcases hcase e with h | hm
    · exact absurd h hx
    · by_cases ho : x ∈ sc.own
      · obtain ⟨a, p1, ⟨v, o, p2, _⟩, p3, p4, p5, p6⟩ := S.e.ownd x ho
        exact ⟨a, o, (hfl hm).trans p1, rest_of p2 p6 p4⟩
      · obtain ⟨a, o, p1, p2⟩ := S.e.bor x (hok hm) ho
        exact ⟨a, o, (hfl hm).trans p1, S.x.le_rest _ _ p2⟩
  · obtain ⟨a, ha, hm⟩ := newc hx
    obtain ⟨h1, h2⟩ := ok.empty x a hm
    obtain ⟨z1, z2, z3⟩ := fresh (a := a) (by lia)
    exact ⟨a, ha, ⟨_, h1⟩, z1, z2, Nat.ne_of_gt (Nat.lt_of_succ_le h2), z3⟩
  · obtain ⟨a1, ha1, hm1⟩ := newc hx
    obtain ⟨a2, ha2, hm2⟩ := newc hy
    rw [ha1] at e1; rw [ha2] at e2; cases e1; cases e2
    exact name_of_addr ok.apart hm1 hm2
  · rw [hkind]
    have := hall _ (ownOf_mem.mp hx)
    simp only at this
    rw [this]
    show some (relK sc.scope x .cell) = _
    unfold relK; simp
  · show relabel scope env = relabel scope (env0 sc.scope); rw [relabel_scope, S.ok.scope]
  · show (relabel scope (env0 sc.scope)).kind = _; exact hk
end
section
variable {c : Cx} {k : Nat} {sc : SC} {ρ : Rho} {μ : Mu} {env : Env} {X fz fz₁ : Led} {s : Shared} {A : Around} {E : Value → Shared → Prop}

structure CompBack (c : Cx) (env : Env) (sc : SC) (X fz : Led) (ρ : Rho) (C : Addr) (acc : Value) (μ' : Mu) (rs : List PV) (fz' : Led) (s' : Shared) : Prop where
  S : Sim c env sc X fz' ρ μ' s'
  r : R c fz' acc (.list rs)
  le : Led.le fz fz'
  ns : ∃ m, s'.heap.Ns C m
  x : X C = none
  f : fz' C = none
  m : μ' C = none
  l : C ≠ env.locals
  o : ∀ x ∈ sc.own, env.cells.lookup x ≠ some C

noncomputable def WI (c : Cx) (k : Nat) (sc : SC) (ρ : Rho) (μ : Mu) (ifs : List Expr) (Q : Bool → Mu → Prop) : Prop :=
  ∀ (A : Around) (env : Env) (X fz : Led) (s : Shared) (E : Value → Shared → Prop), Room A k → Sim c env sc X fz ρ μ s →
    wpAny c.M A (forIn ifs true fun c r => if r = true then do let ok ← isTrue c env (eval c env); pure (ForInStep.yield ok) else pure (ForInStep.yield r)) (PT c env sc X fz ρ Q) E s
theorem WI_nil {Q : Bool → Mu → Prop} (h : Q true μ) : WI c k sc ρ μ [] Q := fun A env X fz s E rm S => wpAny_tests_nil ⟨μ, fz, h, .refl _, S⟩
theorem WI_one {t : Expr} {Q : Bool → Mu → Prop} (h : WT c k sc ρ μ t Q) : WI c k sc ρ μ [t] Q := fun A env X fz s E rm S => wpAny_tests_one (h A env X fz s E rm S)
noncomputable abbrev kInv (Inv : Nat → List PV → Mu → Prop) (i : Nat) (rs : List PV) : PV → Mu → Prop := fun w μ₂ => Inv (i + 1) (rs ++ [w]) μ₂
noncomputable abbrev kTst (c : Cx) (k : Nat) (sc : SC) (ρ : Rho) (elt : Expr) (Inv : Nat → List PV → Mu → Prop) (i : Nat) (rs : List PV) : Bool → Mu → Prop := fun ok μ₂ => (ok = true → WE c k sc ρ μ₂ elt (kInv Inv i rs)) ∧ (ok = false → Inv (i + 1) rs μ₂)
inductive KG (c : Cx) (k : Nat) (sc : SC) (ρi : Rho) (x : Str) (ifs : List Expr) (elt : Expr) (Q : List PV → Mu → Prop) (v : PV) (μ₁ : Mu) : Prop
  | mk (items : List PV) (Inv : Nat → List PV → Mu → Prop) : Items v = some items → items.length ≤ 1000000 → Inv 0 [] μ₁ →
      (∀ i p rs μ', items[i]? = some p → Inv i rs μ' → WI c k sc (ρi.set x p) μ' ifs (kTst c k sc (ρi.set x p) elt Inv i rs)) → (∀ rs μ', Inv items.length rs μ' → Q rs μ') → KG c k sc ρi x ifs elt Q v μ₁
inductive KH (c : Cx) (k : Nat) (sc : SC) (ρi : Rho) (x : Str) (elt : Expr) (Q : List PV → Mu → Prop) (v : PV) (μ₁ : Mu) : Prop
  | mk (items : List PV) (Inv : Nat → List PV → Mu → Prop) : Items v = some items → items.length ≤ 1000000 → Inv 0 [] μ₁ →
      (∀ i p rs μ', items[i]? = some p → Inv i rs μ' → WE c k sc (ρi.set x p) μ' elt (kInv Inv i rs)) → (∀ rs μ', Inv items.length rs μ' → Q rs μ') → KH c k sc ρi x elt Q v μ₁
inductive CInv (c : Cx) (cenv : Env) (sc : SC) (X fz₁ : Led) (Inv : Nat → List PV → Mu → Prop) (ρi : Rho) (n : Nat) (I D : Addr) (St : Nat → Heap → Prop) (m : Nat) (s' : Shared) : Prop
  | mk (i : Nat) (rs : List PV) (ws : List Value) (nD : Nat) (ρ' : Rho) (μ' : Mu) (fz' : Led) : m = n - i → i ≤ n → Inv i rs μ' → Led.le fz₁ fz' → Sim c cenv sc X fz' ρ' μ' s' → Rho.le ρi ρ' →
      fz' I = none → μ' I = none → fz' D = none → μ' D = none → St i s'.heap → s'.heap.get? D = some (lO ws nD) → RA c fz' ws rs → rs.length ≤ i → CInv c cenv sc X fz₁ Inv ρi n I D St m s'
theorem comp_own {scope : Scope} {cl : List (Str × Addr)} (H : Heap) {y : Str} {a : Addr} (hy : y ∈ ownOf scope) (e : (compEnvG scope cl H.objs.size env).cells.lookup y = some a) : H.objs.size < a := by
  obtain ⟨b, hb⟩ := (cellsFrom_names scope.names (H.objs.size + 1) y).mpr (ownOf_mem.mp hy)
  obtain ⟨b', hb'⟩ := lookup_of_mem hb
  have ok := cellsFrom_ok scope.names (H.push { cls := .type "dict", data := .dict #[] }) (H.objs.size + 1) [] ⟨fun _ _ hm => (nomatch hm), List.Pairwise.nil⟩ (by rw [Heap.size_push]; exact Nat.le_refl _)
  rw [Heap.size_push] at ok
  have e2 : (cellsFrom (H.objs.size + 1) scope.names cl).lookup y = some b' := by rw [cellsFrom_append, List.lookup_append, hb']; rfl
  cases e2.symm.trans e
  exact Nat.lt_of_succ_le (ok.empty y _ (mem_of_lookup hb')).2
theorem comp_keep {ρi : Rho} {scope : Scope} {x : Str} {p : PV} {kd : NameKind} (hall : ∀ n kk, (n, kk) ∈ scope.names → scope.names.lookup n = some kk) (hρ : FrC sc.scope scope ρ ρi) (hx : (innerSC scope sc).scope.names.lookup x = some kd) (h3 : kd = .local ∨ (kd = .cell ∧ x ∈ ownOf scope)) : Rho.le ρi (ρi.set x p) := by
  intro y u e
  rw [lookup_set]
  by_cases hy : y = x
  · subst hy
    exfalso
    have hfr := (hρ.at e).2
    rcases h3 with rfl | ⟨rfl, ho⟩
    · have : (relabel scope (env0 sc.scope)).names.lookup y = some .local := hx
      rw [relabel_lookup, hfr] at this
      have := Option.some.inj this
      unfold relK at this
      split at this <;> cases this
    · cases (hall _ _ (ownOf_mem.mp ho)).symm.trans hfr
  · rw [if_neg hy]; exact e
theorem WA_Name_use {x : Str} {p : PV} {v : Value} {px : Pos} {kd : NameKind} {P : Unit → Shared → Prop} (hx : sc.scope.names.lookup x = some kd) (h3 : kd = .local ∨ (kd = .cell ∧ x ∈ sc.own)) (S : Sim c env sc X fz ρ μ s) (rm : Room A k) (r : R c fz v p)
    (K : ∀ fz' s', Led.le fz fz' → Sim c env sc X fz' (ρ.set x p) μ s' → P () s') : wpAny c.M A (assign (.Name x px) env v) P E s :=
  (WA_Name (c := c) (k := k) (Q := fun ρ₂ μ₂ => ρ₂ = ρ.set x p ∧ μ₂ = μ) hx h3 ⟨rfl, rfl⟩).use S rm r fun _ _ fz' s' h l S' => K fz' s' l (h.1 ▸ h.2 ▸ S')
theorem comp_loop {elt iter : Expr} {ifs : List Expr} {x : Str} {px pos : Pos} {scope : Scope} {ρi : Rho} {use : Option (Value → Sem Unit)} {P : Value → Shared → Prop} {cenv : Env} {μ₁ : Mu} {s₁ s₄ : Shared} {I D n : Nat} {fp : List Addr} {Pv : Nat → Value → Prop} {St : Nat → Heap → Prop} {items : List PV} {Inv : Nat → List PV → Mu → Prop} {kd : NameKind}
    (hall : ∀ n kk, (n, kk) ∈ scope.names → scope.names.lookup n = some kk) (hρ : FrC sc.scope scope ρ ρi) (hx : (innerSC scope sc).scope.names.lookup x = some kd) (h3 : kd = .local ∨ (kd = .cell ∧ x ∈ ownOf scope)) (rm : Room A k)
    (T : It c A fz₁ items I fp n Pv St) (hlen : items.length ≤ 1000000)
    (S₁ : Sim c env sc X fz₁ ρ μ₁ s₁) (S₂ : Sim c cenv (innerSC scope sc) (rest s₁.heap fz₁ μ₁) fz₁ ρi μ₁ s₄)
    (hI : s₁.heap.objs.size = I) (lID : I < D) (lDC : D < cenv.locals) (hown : ∀ {y a}, y ∈ ownOf scope → cenv.cells.lookup y = some a → cenv.locals < a) (hst4 : St 0 s₄.heap) (hacc4 : s₄.heap.get? D = some (lO [] 0)) (l1 : Led.le fz fz₁) (i0 : Inv 0 [] μ₁)
    (step : ∀ i p rs μ', items[i]? = some p → Inv i rs μ' → WI c k (innerSC scope sc) (ρi.set x p) μ' ifs (kTst c k (innerSC scope sc) (ρi.set x p) elt Inv i rs))
    (fin : ∀ rs μ', Inv items.length rs μ' → ∀ fz' C acc s', CompBack c env sc X fz ρ C acc μ' rs fz' s' → compPost c.M A E use P acc C (.ok .next) s') :
    codeAny c.M A (.compLoop (.ListComp elt [⟨.Name x px, iter, ifs, 0⟩] scope pos) 0 (.ref I) (.ref D) cenv) (compPost c.M A E use P (.ref D) cenv.locals) s₄ := by
  have lIC := Nat.lt_trans lID lDC
  have zn : ∀ {a}, I ≤ a → rest s₁.heap fz₁ μ₁ a = none := fun ha => none_of fun o q => Nat.not_lt.mpr (hI ▸ ha) (Heap.lt_size (rest_some q).1)
  have zf : ∀ {a}, I ≤ a → fz₁ a = none := fun ha => Led.fresh S₁.x.ef (hI ▸ ha)
  have zm : ∀ {a}, I ≤ a → μ₁ a = none := fun ha => Mu.fresh S₁.x (hI ▸ ha)
  have lD := Nat.le_of_lt lID
  have FI : Far cenv (innerSC scope sc).own (rest s₁.heap fz₁ μ₁) I := ⟨zn (Nat.le_refl _), Nat.ne_of_lt lIC, fun y hy e => Nat.lt_asymm (hown hy e) lIC⟩
  have FD : Far cenv (innerSC scope sc).own (rest s₁.heap fz₁ μ₁) D := ⟨zn lD, Nat.ne_of_lt lDC, fun y hy e => Nat.lt_asymm (hown hy e) lDC⟩
  have hID : D ≠ I := Nat.ne_of_gt lID
  refine codeAny_compLoop_tests (CInv c cenv (innerSC scope sc) (rest s₁.heap fz₁ μ₁) fz₁ Inv ρi n I D St) ?_ n
    ⟨0, [], [], 0, ρi, μ₁, fz₁, rfl, Nat.zero_le _, i0, .refl _, S₂, fun _ _ e => e, zf (Nat.le_refl _), zm (Nat.le_refl _), zf lD, zm lD, hst4, hacc4, .nil, Nat.le_refl _⟩
  rintro m s' ⟨i, rs, ws, nD, ρ', μ', fz', hm0, hin, hinv, le, S', hle, hf', hm', hfD, hmD, hst', hgD, hra, hrl⟩
  by_cases hlt : i < n
  · refine T.item hlt hst' (S'.weak hle (.refl _)) le FI hf' hm' fun v p h' tk oI hp rp S₃ hst'' hk hoI => ?_
    have hgD' := hk D _ hID hgD
    have hYI : others cenv (innerSC scope sc).own h' fz' μ' I = some oI := others_of FI.l FI.c (rest_of hoI hm' hf')
    have hYD : others cenv (innerSC scope sc).own h' fz' μ' D = some (lO ws nD) := others_of FD.l FD.c (rest_of hgD' hmD hfD)
    refine WA_Name_use hx h3 S₃.all rm rp fun fz₄ s₄ l4 S₄ => ?_
    have hkeep := comp_keep (p := p) hall hρ hx h3
    refine wpAny_mono (step i p rs μ' hp hinv _ _ _ _ _ _ rm S₄) (fun ok s₅ h₅ => ?_) fun _ _ x => x
    obtain ⟨μ₅, fz₅, h₅, l5, S₅⟩ := h₅
    have l35 := l4.trans l5
    have hmn : n - (i + 1) < m := hm0 ▸ Nat.sub_lt_sub_left hlt (Nat.lt_succ_self i)
    cases ok with
    | false =>
      exact ⟨n - (i + 1), hmn, i + 1, rs, ws, nD, _, μ₅, fz₅, rfl, hlt, h₅.2 rfl, le.trans l35, S₃.lessX S₅ S₃.le_others, hkeep, S₅.x.xf _ _ hYI, S₅.x.xm hYI, S₅.x.xf _ _ hYD, S₅.x.xm hYD, T.stay hst'' S₃.x.ef le hoI hYI l35 S₅.x, S₅.x.ex _ _ hYD, hra.mono l35, Nat.le_succ_of_le hrl⟩
    | true =>
      refine (h₅.1 rfl).use S₅ rm fun w pw μ₆ fz₆ s₆ h₆ rw' l6 S₆ => ?_
      have l36 := l35.trans l6
      have hS6 := S₃.lessX S₆ S₃.le_others
      refine wpAny_list_append_plain (hsz := by rw [List.size_toArray, hra.length, sizeLine_eq]; exact Nat.le_trans hrl (Nat.le_trans hin (T.hn ▸ Nat.le_trans hlen (by decide)))) ⟨nD, S₆.x.ex _ _ hYD⟩ fun h₇ hl₇ hs₇ => ?_
      obtain ⟨nD', hl₇⟩ := hl₇
      have ek : ∀ b o, b ≠ D → s₆.heap.get? b = some o → h₇.get? b = some o := fun b o hb e => (hs₇.2 b hb).trans e
      exact ⟨n - (i + 1), hmn, i + 1, rs ++ [pw], ws ++ [w], nD', _, μ₆, fz₆, rfl, hlt, h₆, le.trans l36, hS6.keepNe rfl rfl ek FD.x (S₆.x.xf _ _ hYD) (S₆.x.xm hYD) FD.l FD.c, hkeep, S₆.x.xf _ _ hYI, S₆.x.xm hYI, S₆.x.xf _ _ hYD, S₆.x.xm hYD,
        T.W.frame _ _ _ (T.stay hst'' S₃.x.ef le hoI hYI l36 S₆.x) fun b hb o e => ek b o (fun q => (T.hfp D (q ▸ hb) hID).elim fun o' ho' => ns (zf lD) ho') e, hl₇.trans (by rw [List.push_toArray]), (hra.mono l36).append (.cons rw' .nil), by rw [List.length_append]; exact Nat.succ_le_succ hrl⟩
  · refine T.done hin hlt hst' S' FI hf' hm' fun h' tk hie S₃ hk => ?_
    have S₅ : Sim c env sc X fz' ρ μ' { s' with heap := h', toks := tk } := S₁.after S₃.x le
    have FD' : Far env sc.own X D := S₁.far (hI ▸ lD)
    have le' := Led.le_add (o := lO ws nD) hfD
    obtain ⟨mC, hnC, _⟩ := S₃.e.ns
    have FC : Far env sc.own X cenv.locals := S₁.far (hI ▸ Nat.le_of_lt lIC)
    exact fin rs μ' (hie ▸ hinv) (fz'.add D (lO ws nD)) _ (.ref D) _ ⟨S₅.addF (hk D _ hID hgD) FD'.x hfD hmD FD'.l FD'.c, .list (Led.add_self ..) (hra.mono le'), l1.trans (le.trans le'), ⟨mC, hnC⟩, FC.x, Led.add_none (Nat.ne_of_gt lDC) S₃.e.free.2.1, S₃.e.free.2.2, FC.l, FC.c⟩

theorem comp_coreG {elt iter : Expr} {ifs : List Expr} {x : Str} {px pos cpos : Pos} {scope : Scope} {ρi : Rho} {use : Option (Value → Sem Unit)} {P : Value → Shared → Prop}
    (hc : compOk scope sc.scope = true) (hns : notSet iter = true) (hρ : FrC sc.scope scope ρ ρi) {kd : NameKind} (hx : (innerSC scope sc).scope.names.lookup x = some kd) (h3 : kd = .local ∨ (kd = .cell ∧ x ∈ ownOf scope))
    (S : Sim c env sc X fz ρ μ s) (rm : Room A k)
    (h : WE c k sc ρ μ iter (KG c k (innerSC scope sc) ρi x ifs elt (fun rs μ' => ∀ fz' C acc s', CompBack c env sc X fz ρ C acc μ' rs fz' s' → compPost c.M A E use P acc C (.ok .next) s'))) :
    wpAny c.M A (comprehension (.ListComp elt [⟨.Name x px, iter, ifs, 0⟩] scope pos) scope env cpos (newList []) false (eval iter env) use) P E s := by
  have hc' := hc
  unfold compOk at hc'
  simp only [Bool.and_eq_true, List.all_eq_true, decide_eq_true_eq, beq_iff_eq] at hc'
  obtain ⟨⟨⟨hk, hko⟩, hall⟩, hfree⟩ := hc'
  have hcells : ∀ y, (y, NameKind.free) ∈ scope.names → ∃ a, env.cells.lookup y = some a := fun y hy => by
    have := hfree _ hy
    simp only [bne_self_eq_false, Bool.false_or, Bool.or_eq_true, beq_iff_eq] at this
    have hkk : env.kindOf y = some .cell ∨ env.kindOf y = some .free := by
      rcases this with h | h
      · exact .inl (S.kind h)
      · exact .inr (S.kind h)
    by_cases ho : y ∈ sc.own
    · obtain ⟨a, p, _⟩ := S.e.ownd y ho; exact ⟨a, p⟩
    · obtain ⟨a, o, p, _⟩ := S.e.bor y hkk ho; exact ⟨a, p⟩
  obtain ⟨cl, hclos, hcl⟩ := closureFor_of (env := env) (scope := scope) hcells
  refine wpAny_comprehension_free rfl (fun v => ?_) hclos hk (fun y hy hl => ?_) ?_
  · cases iter <;> first | rfl | cases hns
  · obtain ⟨n, kk⟩ := y
    have := hall _ hy
    simp only at this hl
    rw [this, hl]
  refine h.use S rm fun v pv μ₁ fz₁ s₁ h₁ rv l1 S₁ => ?_
  obtain ⟨items, Inv, hi, hlen, i0, step, fin⟩ := h₁
  refine pyIter_It hi rv S₁ rm.1 fun fp n Pv St o I hI T hst _ _ _ => ?_
  refine wpAny_newObj_type ?_ (by show ([] : List Value).toArray.size ≤ sizeLine; simp)
  dsimp only
  generalize hH : (s₁.heap.push o).push { cls := .type "list", data := .seq ([] : List Value).toArray } = H
  have hD : (s₁.heap.push o).objs.size = I + 1 := by rw [Heap.size_push, hI]
  have hHs : H.objs.size = I + 2 := by rw [← hH, Heap.size_push, hD]
  have hup : ∀ b q, s₁.heap.get? b = some q → H.get? b = some q := fun b q e => hH ▸ Heap.get?_push_of_some _ (Heap.get?_push_of_some _ e)
  have hup2 : ∀ b q, (s₁.heap.push o).get? b = some q → H.get? b = some q := fun b q e => hH ▸ Heap.get?_push_of_some _ e
  refine newEnv_comp ?_
  have S₂ := S₁.inner (cl := cl) (ρi := ρi) (H := H) hc hcl hρ hup (by lia) s₁.toks
  show codeAny c.M A (.compStart _ 0 (.ref I) (.ref (s₁.heap.push o).objs.size) (compEnvG scope cl H.objs.size env)) (compPost c.M A E use P (.ref (s₁.heap.push o).objs.size) H.objs.size) { s₁ with heap := pushCells (H.push { cls := .type "dict", data := .dict #[] }) scope.names }
  rw [hD]
  have hk4 : ∀ b q, H.get? b = some q → (pushCells (H.push { cls := .type "dict", data := .dict #[] }) scope.names).get? b = some q := fun b q e => pushCells_keeps _ _ b q (Heap.get?_push_of_some _ e)
  have hst4 := T.W.frame 0 _ _ hst fun b _ q e => hk4 b q (hup2 b q e)
  have hacc4 : (pushCells (H.push { cls := .type "dict", data := .dict #[] }) scope.names).get? (I + 1) = some (lO [] 0) := hk4 _ _ (hH ▸ (by rw [← hD]; exact Heap.get?_push_size _ rfl))
  have LOOP := comp_loop (iter := iter) (px := px) (pos := pos) (fun n kk h => hall _ h) hρ hx h3 rm T hlen S₁ S₂ hI (Nat.lt_succ_self I) (by rw [hHs]; exact Nat.lt_succ_self _) (comp_own H) hst4 hacc4 l1 i0 step fin
  exact codeAny_compStart_list LOOP (T.W.self 0 _ _ _ hst4 LOOP)

theorem comp_core {elt iter : Expr} {x : Str} {px pos cpos : Pos} {scope : Scope} {ρi : Rho} {use : Option (Value → Sem Unit)} {P : Value → Shared → Prop}
    (hc : compOk scope sc.scope = true) (hns : notSet iter = true) (hρ : FrC sc.scope scope ρ ρi) {kd : NameKind} (hx : (innerSC scope sc).scope.names.lookup x = some kd) (h3 : kd = .local ∨ (kd = .cell ∧ x ∈ ownOf scope))
    (S : Sim c env sc X fz ρ μ s) (rm : Room A k)
    (h : WE c k sc ρ μ iter (KH c k (innerSC scope sc) ρi x elt (fun rs μ' => ∀ fz' C acc s', CompBack c env sc X fz ρ C acc μ' rs fz' s' → compPost c.M A E use P acc C (.ok .next) s'))) :
    wpAny c.M A (comprehension (.ListComp elt [⟨.Name x px, iter, [], 0⟩] scope pos) scope env cpos (newList []) false (eval iter env) use) P E s :=
  comp_coreG hc hns hρ hx h3 S rm (h.mono fun v μ₁ ⟨items, Inv, a1, a2, a3, a4, a5⟩ => ⟨items, Inv, a1, a2, a3, fun i p rs μ' hp hi => WI_nil ⟨fun _ => a4 i p rs μ' hp hi, fun e => nomatch e⟩, a5⟩)

theorem WE_Comp {elt iter : Expr} {x : Str} {px pos : Pos} {scope : Scope} {Q : PV → Mu → Prop} (ρi : Rho)
    (hc : compOk scope sc.scope = true) (hns : notSet iter = true) (hρ : FrC sc.scope scope ρ ρi) {kd : NameKind} (hx : (innerSC scope sc).scope.names.lookup x = some kd) (h3 : kd = .local ∨ (kd = .cell ∧ x ∈ ownOf scope))
    (h : WE c k sc ρ μ iter (KH c k (innerSC scope sc) ρi x elt (fun rs μ' => Q (.list rs) μ'))) :
    WE c k sc ρ μ (.ListComp elt [⟨.Name x px, iter, [], 0⟩] scope pos) Q := fun A env X fz s E rm S => by
  rw [eval_ListComp]
  refine comp_core hc hns hρ hx h3 S rm (h.mono fun v μ₁ ⟨items, Inv, h1, h2, h3, h4, h5⟩ => ⟨items, Inv, h1, h2, h3, h4, fun rs μ' hi fz' C acc s' B => ?_⟩)
  refine ⟨_, B.ns.choose_spec, fun h' hs => ?_⟩
  exact ⟨_, μ', fz', h5 rs μ' hi, B.r, B.le, B.S.keepNe rfl rfl (fun b o hb e => (hs.2 b hb).trans e) B.x B.f B.m B.l B.o⟩

theorem WS_AssignComp {elt iter : Expr} {x y : Str} {px py pos spos : Pos} {scope : Scope} {Q : PPost} (ρi : Rho)
    (hsw : swapsWith (.ListComp elt [⟨.Name x px, iter, [], 0⟩] scope pos) (some (.Name y py)) spos.line (env0 sc.scope) = pure true)
    (hc : compOk scope sc.scope = true) (hns : notSet iter = true) (hρ : FrC sc.scope scope ρ ρi) {kd : NameKind} (hx : (innerSC scope sc).scope.names.lookup x = some kd) (h3 : kd = .local ∨ (kd = .cell ∧ x ∈ ownOf scope))
    (hy : sc.scope.names.lookup y = some .local)
    (h : WE c k sc ρ μ iter (KH c k (innerSC scope sc) ρi x elt (fun rs μ' => Q .next (ρ.set y (.list rs)) μ'))) :
    WS c k sc ρ μ (.Assign [.Name y py] (.ListComp elt [⟨.Name x px, iter, [], 0⟩] scope pos) spos) Q := fun A env X fz s E rm S => by
  rw [exec_Assign_Name_used _ _ _ _ (by rw [swapsWith_scope, S.ok.scope]; exact hsw)]
  refine wpAny_bind (wpAny_standAt (wpAny_bind ?_))
  show wpAny _ A (do let _ ← comprehension (.ListComp elt [⟨.Name x px, iter, [], 0⟩] scope pos) scope env _ (newList []) false (eval iter env) (some (assign (.Name y py) env))) _ _ s
  refine wpAny_bind (wpAny_mono (comp_core (P := fun _ s' => PS c env sc X fz Q .next s') hc hns hρ hx h3 S rm (h.mono fun v μ₁ ⟨items, Inv, h1, h2, h3, h4, h5⟩ => ⟨items, Inv, h1, h2, h3, h4, fun rs μ' hi fz' C acc s' B => ?_⟩))
    (fun _ s' hq => wpAny_pure (wpAny_pure hq)) fun _ _ e => e)
  have S' := B.S
  obtain ⟨mC, oC, es, ep, hoC, hrC⟩ := B.ns
  have hYC : others env sc.own s'.heap fz' μ' C = some oC := others_of B.l B.o (rest_of hoC B.m B.f)
  have hA : WA c k sc ρ μ' (.Name y py) (.list rs) (fun ρ₂ μ₂ => ρ₂ = ρ.set y (.list rs) ∧ μ₂ = μ') := WA_Name hy (.inl rfl) ⟨rfl, rfl⟩
  refine hA.use S'.all rm B.r fun ρ₂ μ₂ fz₂ s₂ h₂ l2 S₂ => ?_
  obtain ⟨rfl, rfl⟩ := h₂
  refine ⟨mC, ⟨oC, es, ep, S₂.x.ex _ _ hYC, hrC⟩, fun h' hs => ?_⟩
  have S₃ := S'.lessX S₂ S'.le_others
  refine ⟨_, _, _, fz₂, h5 rs μ₂ hi, .next, B.le.trans l2, S₃.keepNe rfl rfl (fun b o hb e => (hs.2 b hb).trans e) B.x (S₂.x.xf _ _ hYC) ?_ B.l B.o⟩
  exact B.m
end
inductive PX (c : Cx) (X fz : Led) (Q : PV → Mu → Prop) (v : Value) (s' : Shared) : Prop
  | mk (pv : PV) (μ' : Mu) (fz' : Led) : Q pv μ' → R c fz' v pv → Led.le fz fz' → SimX c X fz' μ' s' → PX c X fz Q v s'
noncomputable def WC (c : Cx) (k : Nat) (f : Value) (ps : List PV) (μ : Mu) (Q : PV → Mu → Prop) : Prop :=
  ∀ (A : Around) (X fz : Led) (s : Shared) (vs : List Value) (RR : Result → Shared → Prop), Room A k → RA c fz vs ps → SimX c X fz μ s →
    (∀ v s', PX c X fz Q v s' → RR (.ok (.ret v)) s') → codeAny c.M A (.call f ⟨vs, []⟩) RR s

noncomputable def Fn (c : Cx) (fv : Addr) (names : List Str) (body : List Stmt) (scope : Scope) : Prop :=
  ∃ o fd, c.h₀.get? fv = some o ∧ o.data = .func fd ∧ c.h₀.CodeRec fd.code fd.qualname ∧ fd.body = .stmts body ∧ fd.scope = scope ∧ fd.globals = mainGlobals ∧ fd.builtins = builtinsNs ∧ fd.closure = [] ∧
    ∀ vs : List Value, vs.length = names.length → bindArgs fd ⟨vs, []⟩ = pure (names.zip vs)
noncomputable def fnOk (scope : Scope) (names : List Str) : Bool :=
  scope.kind == .function && scope.names.all (fun (n, k) => decide (scope.names.lookup n = some k) && k != .free) && !scope.isCoroutine && !scope.isGenerator &&
    names.all (fun n => scope.names.lookup n == some .local || scope.names.lookup n == some .cell) && decide names.Nodup

section
variable {c : Cx} {k : Nat} {sc : SC} {ρ : Rho} {μ : Mu} {env : Env} {X fz fz₁ : Led} {s : Shared} {A : Around} {E : Value → Shared → Prop}

theorem WC.mono {f : Value} {ps : List PV} {Q Q' : PV → Mu → Prop} (h : WC c k f ps μ Q) (hq : ∀ v m, Q v m → Q' v m) : WC c k f ps μ Q' :=
  fun A X fz s vs RR r ra S K => h A X fz s vs RR r ra S fun v s' ⟨p, m, f, a, b, d, e⟩ => K v s' ⟨p, m, f, hq _ _ a, b, d, e⟩
theorem WC.le {f : Value} {ps : List PV} {Q : PV → Mu → Prop} {j : Nat} (h : WC c j f ps μ Q) (hj : j ≤ k) : WC c k f ps μ Q := fun A X fz s vs RR r ra S K => h A X fz s vs RR (r.le hj) ra S K
theorem WO_call {f : Value} {ps : List PV} {Q : PV → Mu → Prop} (h : WC c k f ps μ Q) : WO c k (fun vs => call f vs) ps μ Q :=
  fun A env sc ρ X fz s E vs r ra S => wpAny_call (h A _ fz s vs _ r ra S.x.all fun v s' ⟨p, m, f', a, b, d, e⟩ => ⟨p, m, f', a, b, d, S.after e d⟩)

theorem bindL_get {kindOf : Str → Option NameKind} {x : Str} (hx : kindOf x = some .local) : ∀ (binds : List (Str × Value)) (m : Str → Option Value), (binds.map (·.1)).Nodup →
    bindL kindOf binds m x = match binds.lookup x with | some v => some v | none => m x := by
  intro binds
  induction binds with
  | nil => intro m _; rfl
  | cons p r ih =>
    intro m hn
    have hn := List.nodup_cons.mp hn
    refine (ih _ hn.2).trans ?_
    by_cases h : x = p.1
    · rw [none_of fun w q => hn.1 (List.mem_map.mpr ⟨(x, w), mem_of_lookup q, h⟩), lookup_hit h]
      show (ite _ _ _ : Str → Option Value) x = _
      rw [if_pos (h ▸ hx)]; exact if_pos h
    · rw [lookup_ne h]
      cases r.lookup x with
      | some w => rfl
      | none =>
        show (ite _ _ _ : Str → Option Value) x = _
        split
        · first | exact if_neg h | rfl
        · first | exact if_neg h | rfl
theorem bindC_get {kindOf : Str → Option NameKind} {x : Str} (hx : kindOf x ≠ some .local) : ∀ (binds : List (Str × Value)) (m : Str → Option Value), (binds.map (·.1)).Nodup →
    bindC kindOf binds m x = match binds.lookup x with | some v => some v | none => m x := by
  intro binds
  induction binds with
  | nil => intro m _; rfl
  | cons p r ih =>
    intro m hn
    have hn := List.nodup_cons.mp hn
    refine (ih _ hn.2).trans ?_
    by_cases h : x = p.1
    · rw [none_of fun w q => hn.1 (List.mem_map.mpr ⟨(x, w), mem_of_lookup q, h⟩), lookup_hit h]
      show (ite _ _ _ : Str → Option Value) x = _
      rw [if_neg (h ▸ hx)]; exact if_pos h
    · rw [lookup_ne h]
      cases r.lookup x with
      | some w => rfl
      | none =>
        show (ite _ _ _ : Str → Option Value) x = _
        split
        · first | exact if_neg h | rfl
        · first | exact if_neg h | rfl
theorem zip_lookup {names : List Str} {vs : List Value} {ps : List PV} {x : Str} {p : PV} (ra : RA c fz vs ps) (h : (names.zip ps).lookup x = some p) : ∃ r, (names.zip vs).lookup x = some r ∧ R c fz r p := by
  induction names generalizing vs ps with
  | nil => cases h
  | cons n names ih =>
    cases ra with
    | nil => cases h
    | cons r ra =>
      rw [List.zip_cons_cons, List.lookup_cons] at h ⊢
      cases hx : x == n with
      | true => rw [hx] at h; cases h; exact ⟨_, rfl, r⟩
      | false => rw [hx] at h; exact ih ra h
theorem zip_names {names : List Str} : ∀ {vs : List Value}, vs.length = names.length → (names.zip vs).map (·.1) = names := by
  induction names with
  | nil => intro vs h; rfl
  | cons n names ih =>
    intro vs h
    cases vs with
    | nil => cases h
    | cons v vs => rw [List.zip_cons_cons, List.map_cons, ih (by simpa using h)]

theorem call_def {fv : Addr} {names : List Str} {body : List Stmt} {scope : Scope} {ps : List PV} {vs : List Value} {RR : Result → Shared → Prop} (F : Fn c fv names body scope) (hlim : c.h₀.NoLimit) (hok : fnOk scope names = true) (hl : ps.length = names.length)
    (rm : Room A (k + 1)) (ra : RA c fz vs ps) (S : SimX c X fz μ s)
    (h : ∀ env s₁, env.frame = some env.locals → env.locals = s.heap.objs.size → (∀ b o, s.heap.get? b = some o → s₁.heap.get? b = some o) → Sim c env ⟨scope, ownOf scope⟩ (rest s.heap fz μ) fz (names.zip ps) μ s₁ →
      wpAny c.M (A.deeper env) (execs body env) (fun f s' => RR (.ok (.ret (match f with | .ret v => v | _ => .none))) s') (fun e s' => wpAny c.M (A.deeper env) (leaving env e) (fun _ s'' => RR (.error e) s'') (fun e' s'' => RR (.error e') s'') s') s₁) :
    codeAny c.M A (.call (.ref fv) ⟨vs, []⟩) RR s := by
  obtain ⟨o, fd, ho, hd, hcd, hb, rfl, hg, hbl, hcl, hbind⟩ := F
  have hvl : vs.length = names.length := ra.length.trans hl
  unfold fnOk at hok
  simp only [Bool.and_eq_true, List.all_eq_true, decide_eq_true_eq, beq_iff_eq, Bool.not_eq_true', Bool.or_eq_true, bne_iff_ne, ne_eq] at hok
  obtain ⟨⟨⟨⟨⟨hk, hall⟩, hco⟩, hgen⟩, hnames⟩, hnd⟩ := hok
  have hb0 : ∀ b o, c.h₀.get? b = some o → s.heap.get? b = some o := fun b o e => S.ex _ _ (S.base _ _ e)
  have hmn : ∀ x ∈ names.zip vs, x.1 ∈ names := fun x hx => by rw [← zip_names hvl]; exact List.mem_map.mpr ⟨x, hx, rfl⟩
  have newc : ∀ {n y}, y ∈ ownOf fd.scope → ∃ a, (cellsFrom n fd.scope.names []).lookup y = some a := fun {n y} hy => by
    obtain ⟨a, ha⟩ := (cellsFrom_names fd.scope.names n y).mpr (ownOf_mem.mp hy)
    exact lookup_of_mem ha
  have hlk : ∀ {x kd}, fd.scope.names.lookup x = some kd → (x, kd) ∈ fd.scope.names := fun {x kd} e => by
    rw [lookup_find] at e
    obtain ⟨y, hy, e'⟩ := Option.map_eq_some_iff.mp e
    have h1 := List.find?_some hy
    obtain ⟨n, k'⟩ := y
    have : x = n := by simpa using h1
    subst this
    simp only at e'; subst e'
    exact List.mem_of_find?_eq_some hy
  refine codeAny_call_cells (fd := fd) (body := body) (binds := names.zip vs) rm.depth (hb0 _ _ ho) hd (hlim.keeps hb0) (let ⟨cc, oc, vs, tq, hc, hoc, hdc, hq⟩ := hcd; ⟨cc, oc, vs, tq, hc, hb0 _ _ hoc, hdc, hq⟩) hb (hbind vs hvl) hcl (fun x hx => ?_) (fun s₁ I => ?_) hco hgen hk
  · rcases hnames x.1 (hmn x hx) with h | h
    · exact .inl h
    · refine .inr ⟨h, ?_⟩
      obtain ⟨a, ha⟩ := newc (n := s.heap.objs.size + 1) (ownOf_mem.mpr (hlk h))
      rw [ha]; rfl
  · generalize henv : callEnvC fd s.heap.objs.size fv = env at I ⊢
    have eL : env.locals = s.heap.objs.size := by rw [← henv]; rfl
    have ecl : env.cells = cellsFrom (s.heap.objs.size + 1) fd.scope.names [] := by rw [← henv]; rfl
    have esc : env.scope = fd.scope := by rw [← henv]; rfl
    have ekd : ∀ x, env.kindOf x = fd.scope.names.lookup x := fun x => by rw [← henv]; rfl
    obtain ⟨h₁, tk, es₁⟩ := I.toInCall.same
    have fresh : ∀ {a}, s.heap.objs.size ≤ a → rest s.heap fz μ a = none ∧ fz a = none ∧ μ a = none := fun {a} ha => by
      have h1 := Mu.fresh S ha
      have h2 := Led.fresh S.ef ha
      refine ⟨?_, h2, h1⟩
      cases q : rest s.heap fz μ a with
      | none => rfl
      | some o => exact absurd (Heap.lt_size (rest_some q).1) (Nat.not_lt.mpr ha)
    have cellz : ∀ {x a}, env.cells.lookup x = some a → s.heap.objs.size < a := fun {x a} e => by
      have := I.above x a (mem_of_lookup e)
      rw [eL] at this; exact this
    have S₁ : Sim c env ⟨fd.scope, ownOf fd.scope⟩ (rest s.heap fz μ) fz (names.zip ps) μ s₁ := by
      refine ⟨S.all.keep (by rw [es₁]) (by rw [es₁]) I.toInCall.keep, ⟨⟨_, I.toInCall.ns, fun x v e q => ?_⟩, ?_, fun x v e q => ?_, fun x e hx => ?_, fun x hx => ?_, fun x y a hx hy e1 e2 => ?_, fun x hx => ?_⟩, ⟨esc, hk, ?_, ?_⟩⟩
      · obtain ⟨r, h1, h2⟩ := zip_lookup ra q
        refine ⟨r, ?_, h2⟩
        rw [bindL_get e _ _ (by rw [zip_names hvl]; exact hnd), h1]
      · rw [eL]; exact fresh (Nat.le_refl _)
      · obtain ⟨r, h1, h2⟩ := zip_lookup ra q
        have hx : x ∈ ownOf fd.scope := by
          rw [ekd] at e
          rcases e with e | e
          · exact ownOf_mem.mpr (hlk e)
          · exact absurd rfl (hall _ (hlk e)).2
        obtain ⟨a, ha⟩ := newc (n := s.heap.objs.size + 1) hx
        rw [← ecl] at ha
        refine ⟨a, r, ha, ?_, h2⟩
        have := I.cell x a ha
        have hne : env.kindOf x ≠ some .local := by rcases e with e | e <;> rw [e] <;> decide
        rwa [bindC_get hne _ _ (by rw [zip_names hvl]; exact hnd), h1] at this
      · rw [ekd] at e
        rcases e with e | e
        · exact absurd (ownOf_mem.mpr (hlk e)) hx
        · exact absurd rfl (hall _ (hlk e)).2
      · obtain ⟨a, ha⟩ := newc (n := s.heap.objs.size + 1) hx
        rw [← ecl] at ha
        have hlt := cellz ha
        obtain ⟨z1, z2, z3⟩ := fresh (Nat.le_of_lt hlt)
        exact ⟨a, ha, ⟨_, I.cell x a ha⟩, z1, z2, by rw [eL]; exact Nat.ne_of_gt hlt, z3⟩
      · exact name_of_addr I.apart (mem_of_lookup e1) (mem_of_lookup e2)
      · rw [ekd]; exact (hall _ (ownOf_mem.mp hx)).1
      · rw [← henv]; exact hg
      · rw [← henv]; exact hbl
    exact h env s₁ (by rw [← henv]; rfl) eL I.toInCall.keep S₁
noncomputable abbrev kDef (Q : PV → Mu → Prop) : PPost := fun f _ μ' => match f with | .ret v => Q v μ' | .next => Q .none μ' | _ => False
theorem WC_def {fv : Addr} {names : List Str} {body : List Stmt} {scope : Scope} {ps : List PV} {Q : PV → Mu → Prop} (F : Fn c fv names body scope) (hlim : c.h₀.NoLimit) (hok : fnOk scope names = true) (hl : ps.length = names.length)
    (h : WSs c k ⟨scope, ownOf scope⟩ (names.zip ps) μ body (kDef Q)) : WC c (k + 1) (.ref fv) ps μ Q := fun A X fz s vs RR rm ra S K => by
  refine call_def F hlim hok hl rm ra S fun env s₁ hfr hL hkp S₁ => ?_
  refine wpAny_mono (h (A.deeper env) env _ fz s₁ _ rm.deeper S₁) (fun f s' hf => ?_) fun _ _ x => x
  obtain ⟨pf, ρ', μ', fz', hq, rf, le, S'⟩ := hf
  have hfin : SimX c X fz' μ' s' := S'.x.lessX S.le_rest S.base
  cases rf with
  | next => exact K _ _ ⟨.none, μ', fz', hq, .none, le, hfin⟩
  | brk => exact hq.elim
  | cont => exact hq.elim
  | ret r => exact K _ _ ⟨_, μ', fz', hq, r, le, hfin⟩

theorem callWith_any {pos : Pos} {f : Value} {first : List Value} {es : List Expr} {Q' : List PV → Mu → Prop} {P : Value → Shared → Prop}
    (hes : es.all notStar = true) (hk : ∀ h, (∀ b o, c.h₀.get? b = some o → h.get? b = some o) → ∃ kp, (kp = Keeper.frame ∨ kp = Keeper.machine ∨ kp = Keeper.boundFrame) ∧ Looks c.M h (keeperOf f) kp)
    (h : WEs c k sc ρ μ es Q') (S : Sim c env sc X fz ρ μ s) (rm : Room A k)
    (hc : ∀ vs ps μ' fz' s', Q' ps μ' → RA c fz' vs ps → Led.le fz fz' → Sim c env sc X fz' ρ μ' s' → wpAny c.M A (call f (first ++ vs)) P E s') :
    wpAny c.M A (callWith pos f first (backTo pos (starEach es env)) []) P E s := by
  have hst : ∀ l : List Expr, l.all notStar = true → (backTo pos (starEach l env)).any (·.1) = false := by
    intro l
    induction l with
    | nil => intro _; rfl
    | cons e l ih =>
      intro hl
      rw [List.all_cons, Bool.and_eq_true] at hl
      rw [starEach_of hl.1]
      show (false || (backTo pos (starEach l env)).any (·.1)) = false
      rw [ih hl.2]; rfl
  refine callWith_of (P := fun h => ∀ b o, c.h₀.get? b = some o → h.get? b = some o) (by rw [hst es hes]; rfl) hk ?_
  have main : wpAny c.M A (spliced (backTo pos (starEach es env))) (fun vs s' => (∀ b o, c.h₀.get? b = some o → s'.heap.get? b = some o) ∧ wpAny c.M A (call f (first ++ vs)) P E s') E s :=
    h.use S rm fun v pv μ' fz' s' a b d e => ⟨fun b o q => e.x.ex _ _ (e.x.base _ _ q), hc v pv μ' fz' s' a b d e⟩
  cases es with
  | nil =>
    unfold evalArgs
    show wpAny c.M A (spliced [] >>= _) _ E s
    refine wpAny_bind (wpAny_mono main (fun vs s' h' => ?_) fun _ _ x => x)
    refine wpAny_bind (wpAny_pure ?_)
    refine wpAny_holding ?_
    exact wpAny_bind (wpAny_pure (wpAny_bind (wpAny_pure (wpAny_pure h'))))
  | cons e rest =>
    rw [List.all_cons, Bool.and_eq_true] at hes
    rw [starEach_of hes.1] at main ⊢
    exact evalArgs_plain main
end
section
variable {c : Cx} {k : Nat} {sc : SC} {ρ : Rho} {μ : Mu} {env : Env} {X fz fz₁ : Led} {s : Shared} {A : Around} {E : Value → Shared → Prop}

noncomputable def heap0 : Heap := { objs := #[] }
theorem heap0_none (a : Addr) : heap0.get? a = none := by unfold Heap.get? heap0; simp
theorem newsOf (h : Heap) (p : Addr → Prop) [DecidablePred p] : ∃ l : List (Addr × Obj), (∀ q ∈ l, h.get? q.1 = some q.2 ∧ ¬ p q.1) ∧ ∀ b o, ¬ p b → h.get? b = some o → (b, o) ∈ l := by
  refine ⟨(List.range h.objs.size).filterMap (fun i => if p i then none else (h.get? i).map fun o => (i, o)), fun q hq => ?_, fun b o hb e => List.mem_filterMap.mpr ⟨b, List.mem_range.mpr (Heap.lt_size e), by rw [if_neg hb, e]; rfl⟩⟩
  obtain ⟨i, _, hi⟩ := List.mem_filterMap.mp hq
  by_cases hne : p i
  · exact ns (if_pos hne) hi
  · obtain ⟨o, ho, rfl⟩ := Option.map_eq_some_iff.mp ((if_neg hne).symm.trans hi)
    exact ⟨ho, hne⟩
theorem Sim.fr (S : Sim c env sc X fz ρ μ s) : ∃ m news, Fr heap0 env.locals s.heap m ∧ News heap0 env.locals s.heap news ∧ (∀ b o, b ≠ env.locals → s.heap.get? b = some o → (b, o) ∈ news) ∧
    (∀ x v, env.kindOf x = some .local → ρ.lookup x = some v → ∃ r, m x = some r ∧ R c fz r v) :=
  S.e.ns.elim fun m p => (newsOf s.heap (· = env.locals)).elim fun l q => ⟨m, l, ⟨p.1, (fun b o e => ns (heap0_none b) e), Nat.zero_le _⟩, fun z hz => ⟨(q.1 z hz).1, (q.1 z hz).2, heap0_none _⟩, q.2, p.2⟩
theorem Sim.back {s' : Shared} {m : Str → Option Value} {news : List (Addr × Obj)} (S : Sim c env sc X fz ρ μ s) (hall : ∀ b o, b ≠ env.locals → s.heap.get? b = some o → (b, o) ∈ news)
    (hm : ∀ x v, env.kindOf x = some .local → ρ.lookup x = some v → ∃ r, m x = some r ∧ R c fz r v) (F : Fr heap0 env.locals s'.heap m) (N : News heap0 env.locals s'.heap news) (hg : s'.gens = s.gens) (ho : s'.os = s.os) : Sim c env sc X fz ρ μ s' :=
  S.relocal hg ho (fun b o hb e => (N _ (hall b o hb e)).1) F.ns hm fun _ _ _ q => q

theorem Sim.addNew {s' : Shared} {o : Obj} (S : Sim c env sc X fz ρ μ s) (hg : s'.gens = s.gens) (hos : s'.os = s.os) (hk : ∀ b o, s.heap.get? b = some o → s'.heap.get? b = some o) (ho : s'.heap.get? s.heap.objs.size = some o) :
    Sim c env sc X (fz.add s.heap.objs.size o) ρ μ s' :=
  (S.keep hg hos hk).addF ho (Led.fresh S.x.ex (Nat.le_refl _)) (Led.fresh S.x.ef (Nat.le_refl _)) (Mu.fresh S.x (Nat.le_refl _)) (Nat.ne_of_gt S.e.lt_loc) fun x hx e => Nat.lt_irrefl _ (S.e.lt_cells hx e)
theorem Sim.newM {s' : Shared} {o : Obj} {m : MObj} (S : Sim c env sc X fz ρ μ s) (hg : s'.gens = s.gens) (hos : s'.os = s.os) (hk : ∀ b o, s.heap.get? b = some o → s'.heap.get? b = some o) (ho : s'.heap.get? s.heap.objs.size = some o)
    (r : RO c fz s.heap.objs.size o m) : Sim c env sc X fz ρ (μ.set s.heap.objs.size m) s' :=
  ⟨S.x.setμ hg hos (fun b o' _ e => hk b o' e) ho r (Led.fresh S.x.ex (Nat.le_refl _)) (Led.fresh S.x.ef (Nat.le_refl _)),
    S.e.setμ (fun b o' _ e => hk b o' e) (Nat.ne_of_lt S.e.lt_loc) (Led.fresh S.x.ex (Nat.le_refl _)) (fun x b hx e => Nat.ne_of_lt (S.e.lt_cells hx e)), S.ok⟩

section intops
variable {Q : PV → Mu → Prop} {i j : Int}
theorem WO_add (h : Q (.int (i + j)) μ) : WO c k (t2 (binaryOp .Add)) [.int i, .int j] μ Q := fun A env sc ρ X fz s E vs rm ra S => by
  obtain ⟨v, w, rfl, r1, r2⟩ := ra.inv2; (first | obtain rfl := r1.inv | obtain ⟨_, rfl⟩ := r1.inv | obtain ⟨_, _, _, rfl, _, _⟩ := r1.inv | obtain ⟨_, _, rfl, _⟩ := r1.inv | obtain ⟨_, rfl, _⟩ := r1.inv | obtain ⟨_, _, _, rfl, _, _, _, _, _⟩ := r1.inv | obtain ⟨_, _, _, _, rfl, _, _, _, _⟩ := r1.inv | obtain ⟨_, _, _, _, rfl, _, _, _, _, _⟩ := r1.inv | cases r1); (first | obtain rfl := r2.inv | obtain ⟨_, rfl⟩ := r2.inv | obtain ⟨_, _, _, rfl, _, _⟩ := r2.inv | obtain ⟨_, _, rfl, _⟩ := r2.inv | obtain ⟨_, rfl, _⟩ := r2.inv | obtain ⟨_, _, _, rfl, _, _, _, _, _⟩ := r2.inv | obtain ⟨_, _, _, _, rfl, _, _, _, _⟩ := r2.inv | obtain ⟨_, _, _, _, rfl, _, _, _, _, _⟩ := r2.inv | cases r2)
  exact PySem.P.add_int ((S.toks _).pe (.int _ _) h)
theorem WO_iadd (h : Q (.int (i + j)) μ) : WO c k (t2 (inplaceOp .Add)) [.int i, .int j] μ Q := fun A env sc ρ X fz s E vs rm ra S => by
  obtain ⟨v, w, rfl, r1, r2⟩ := ra.inv2; (first | obtain rfl := r1.inv | obtain ⟨_, rfl⟩ := r1.inv | obtain ⟨_, _, _, rfl, _, _⟩ := r1.inv | obtain ⟨_, _, rfl, _⟩ := r1.inv | obtain ⟨_, rfl, _⟩ := r1.inv | obtain ⟨_, _, _, rfl, _, _, _, _, _⟩ := r1.inv | obtain ⟨_, _, _, _, rfl, _, _, _, _⟩ := r1.inv | obtain ⟨_, _, _, _, rfl, _, _, _, _, _⟩ := r1.inv | cases r1); (first | obtain rfl := r2.inv | obtain ⟨_, rfl⟩ := r2.inv | obtain ⟨_, _, _, rfl, _, _⟩ := r2.inv | obtain ⟨_, _, rfl, _⟩ := r2.inv | obtain ⟨_, rfl, _⟩ := r2.inv | obtain ⟨_, _, _, rfl, _, _, _, _, _⟩ := r2.inv | obtain ⟨_, _, _, _, rfl, _, _, _, _⟩ := r2.inv | obtain ⟨_, _, _, _, rfl, _, _, _, _, _⟩ := r2.inv | cases r2)
  exact PySem.P.iadd_int ((S.toks _).pe (.int _ _) h)
theorem WO_sub (h : Q (.int (i - j)) μ) : WO c k (t2 (binaryOp .Sub)) [.int i, .int j] μ Q := fun A env sc ρ X fz s E vs rm ra S => by
  obtain ⟨v, w, rfl, r1, r2⟩ := ra.inv2; (first | obtain rfl := r1.inv | obtain ⟨_, rfl⟩ := r1.inv | obtain ⟨_, _, _, rfl, _, _⟩ := r1.inv | obtain ⟨_, _, rfl, _⟩ := r1.inv | obtain ⟨_, rfl, _⟩ := r1.inv | obtain ⟨_, _, _, rfl, _, _, _, _, _⟩ := r1.inv | obtain ⟨_, _, _, _, rfl, _, _, _, _⟩ := r1.inv | obtain ⟨_, _, _, _, rfl, _, _, _, _, _⟩ := r1.inv | cases r1); (first | obtain rfl := r2.inv | obtain ⟨_, rfl⟩ := r2.inv | obtain ⟨_, _, _, rfl, _, _⟩ := r2.inv | obtain ⟨_, _, rfl, _⟩ := r2.inv | obtain ⟨_, rfl, _⟩ := r2.inv | obtain ⟨_, _, _, rfl, _, _, _, _, _⟩ := r2.inv | obtain ⟨_, _, _, _, rfl, _, _, _, _⟩ := r2.inv | obtain ⟨_, _, _, _, rfl, _, _, _, _, _⟩ := r2.inv | cases r2)
  exact PySem.P.sub_int ((S.toks _).pe (.int _ _) h)
theorem WO_mul (hs : (i.natAbs < 2 ^ 64) ∨ (j.natAbs < 2 ^ 64)) (h : Q (.int (i * j)) μ) : WO c k (t2 (binaryOp .Mult)) [.int i, .int j] μ Q := fun A env sc ρ X fz s E vs rm ra S => by
  obtain ⟨v, w, rfl, r1, r2⟩ := ra.inv2; (first | obtain rfl := r1.inv | obtain ⟨_, rfl⟩ := r1.inv | obtain ⟨_, _, _, rfl, _, _⟩ := r1.inv | obtain ⟨_, _, rfl, _⟩ := r1.inv | obtain ⟨_, rfl, _⟩ := r1.inv | obtain ⟨_, _, _, rfl, _, _, _, _, _⟩ := r1.inv | obtain ⟨_, _, _, _, rfl, _, _, _, _⟩ := r1.inv | obtain ⟨_, _, _, _, rfl, _, _, _, _, _⟩ := r1.inv | cases r1); (first | obtain rfl := r2.inv | obtain ⟨_, rfl⟩ := r2.inv | obtain ⟨_, _, _, rfl, _, _⟩ := r2.inv | obtain ⟨_, _, rfl, _⟩ := r2.inv | obtain ⟨_, rfl, _⟩ := r2.inv | obtain ⟨_, _, _, rfl, _, _, _, _, _⟩ := r2.inv | obtain ⟨_, _, _, _, rfl, _, _, _, _⟩ := r2.inv | obtain ⟨_, _, _, _, rfl, _, _, _, _, _⟩ := r2.inv | cases r2)
  refine PySem.P.mul_int ((S.toks _).pe (.int _ _) h) ?_
  rcases hs with hs | hs
  · exact IntMulOk.of_left (intBits_le_64 (by lia) (by lia))
  · exact IntMulOk.of_right (intBits_le_64 (by lia) (by lia))
theorem WO_fdiv (hj : j ≠ 0) (hb : j.natAbs < 2 ^ 40) (h : Q (.int (i.fdiv j)) μ) : WO c k (t2 (binaryOp .FloorDiv)) [.int i, .int j] μ Q := fun A env sc ρ X fz s E vs rm ra S => by
  obtain ⟨v, w, rfl, r1, r2⟩ := ra.inv2; (first | obtain rfl := r1.inv | obtain ⟨_, rfl⟩ := r1.inv | obtain ⟨_, _, _, rfl, _, _⟩ := r1.inv | obtain ⟨_, _, rfl, _⟩ := r1.inv | obtain ⟨_, rfl, _⟩ := r1.inv | obtain ⟨_, _, _, rfl, _, _, _, _, _⟩ := r1.inv | obtain ⟨_, _, _, _, rfl, _, _, _, _⟩ := r1.inv | obtain ⟨_, _, _, _, rfl, _, _, _, _, _⟩ := r1.inv | cases r1); (first | obtain rfl := r2.inv | obtain ⟨_, rfl⟩ := r2.inv | obtain ⟨_, _, _, rfl, _, _⟩ := r2.inv | obtain ⟨_, _, rfl, _⟩ := r2.inv | obtain ⟨_, rfl, _⟩ := r2.inv | obtain ⟨_, _, _, rfl, _, _, _, _, _⟩ := r2.inv | obtain ⟨_, _, _, _, rfl, _, _, _, _⟩ := r2.inv | obtain ⟨_, _, _, _, rfl, _, _, _, _, _⟩ := r2.inv | cases r2)
  refine floordiv_int hj ((S.toks _).pe (.int _ _) h) (.inl ?_)
  unfold Builtin.divisionGoesByPylong
  have : (if (j == 0) = true then 0 else j.natAbs.log2 / 30 + 1) ≤ 300 := by
    split
    · lia
    · have : j.natAbs.log2 < 40 := (Nat.log2_lt (by lia)).mpr hb
      lia
  simp only [Bool.and_eq_false_iff, decide_eq_false_iff_not]
  left; exact Nat.not_lt.mpr this
theorem WO_fmod (hj : j ≠ 0) (h : Q (.int (i.fmod j)) μ) : WO c k (t2 (binaryOp .Mod)) [.int i, .int j] μ Q := fun A env sc ρ X fz s E vs rm ra S => by
  obtain ⟨v, w, rfl, r1, r2⟩ := ra.inv2; (first | obtain rfl := r1.inv | obtain ⟨_, rfl⟩ := r1.inv | obtain ⟨_, _, _, rfl, _, _⟩ := r1.inv | obtain ⟨_, _, rfl, _⟩ := r1.inv | obtain ⟨_, rfl, _⟩ := r1.inv | obtain ⟨_, _, _, rfl, _, _, _, _, _⟩ := r1.inv | obtain ⟨_, _, _, _, rfl, _, _, _, _⟩ := r1.inv | obtain ⟨_, _, _, _, rfl, _, _, _, _, _⟩ := r1.inv | cases r1); (first | obtain rfl := r2.inv | obtain ⟨_, rfl⟩ := r2.inv | obtain ⟨_, _, _, rfl, _, _⟩ := r2.inv | obtain ⟨_, _, rfl, _⟩ := r2.inv | obtain ⟨_, rfl, _⟩ := r2.inv | obtain ⟨_, _, _, rfl, _, _, _, _, _⟩ := r2.inv | obtain ⟨_, _, _, _, rfl, _, _, _, _⟩ := r2.inv | obtain ⟨_, _, _, _, rfl, _, _, _, _, _⟩ := r2.inv | cases r2)
  exact mod_int' hj ((S.toks _).pe (.int _ _) h)
theorem WO_shl (h0 : 0 ≤ j) (h1 : j ≤ 1000000) (hi : i.natAbs < 2 ^ 64) (h : Q (.int (i * 2 ^ j.toNat)) μ) : WO c k (t2 (binaryOp .LShift)) [.int i, .int j] μ Q := fun A env sc ρ X fz s E vs rm ra S => by
  obtain ⟨v, w, rfl, r1, r2⟩ := ra.inv2; (first | obtain rfl := r1.inv | obtain ⟨_, rfl⟩ := r1.inv | obtain ⟨_, _, _, rfl, _, _⟩ := r1.inv | obtain ⟨_, _, rfl, _⟩ := r1.inv | obtain ⟨_, rfl, _⟩ := r1.inv | obtain ⟨_, _, _, rfl, _, _, _, _, _⟩ := r1.inv | obtain ⟨_, _, _, _, rfl, _, _, _, _⟩ := r1.inv | obtain ⟨_, _, _, _, rfl, _, _, _, _, _⟩ := r1.inv | cases r1); (first | obtain rfl := r2.inv | obtain ⟨_, rfl⟩ := r2.inv | obtain ⟨_, _, _, rfl, _, _⟩ := r2.inv | obtain ⟨_, _, rfl, _⟩ := r2.inv | obtain ⟨_, rfl, _⟩ := r2.inv | obtain ⟨_, _, _, rfl, _, _, _, _, _⟩ := r2.inv | obtain ⟨_, _, _, _, rfl, _, _, _, _⟩ := r2.inv | obtain ⟨_, _, _, _, rfl, _, _, _, _, _⟩ := r2.inv | cases r2)
  exact lshift_int_small h0 h1 hi ((S.toks _).pe (.int _ _) h)
theorem WO_shr (h0 : 0 ≤ j) (h : Q (.int (i.fdiv (2 ^ j.toNat))) μ) : WO c k (t2 (binaryOp .RShift)) [.int i, .int j] μ Q := fun A env sc ρ X fz s E vs rm ra S => by
  obtain ⟨v, w, rfl, r1, r2⟩ := ra.inv2; (first | obtain rfl := r1.inv | obtain ⟨_, rfl⟩ := r1.inv | obtain ⟨_, _, _, rfl, _, _⟩ := r1.inv | obtain ⟨_, _, rfl, _⟩ := r1.inv | obtain ⟨_, rfl, _⟩ := r1.inv | obtain ⟨_, _, _, rfl, _, _, _, _, _⟩ := r1.inv | obtain ⟨_, _, _, _, rfl, _, _, _, _⟩ := r1.inv | obtain ⟨_, _, _, _, rfl, _, _, _, _, _⟩ := r1.inv | cases r1); (first | obtain rfl := r2.inv | obtain ⟨_, rfl⟩ := r2.inv | obtain ⟨_, _, _, rfl, _, _⟩ := r2.inv | obtain ⟨_, _, rfl, _⟩ := r2.inv | obtain ⟨_, rfl, _⟩ := r2.inv | obtain ⟨_, _, _, rfl, _, _, _, _, _⟩ := r2.inv | obtain ⟨_, _, _, _, rfl, _, _, _, _⟩ := r2.inv | obtain ⟨_, _, _, _, rfl, _, _, _, _, _⟩ := r2.inv | cases r2)
  exact rshift_int h0 ((S.toks _).pe (.int _ _) h)
theorem WO_pow (h0 : 0 ≤ j) (h1 : j ≤ 1000000) (hi : i.natAbs < 2 ^ 64) (h : Q (.int (i ^ j.toNat)) μ) : WO c k (t2 (binaryOp .Pow)) [.int i, .int j] μ Q := fun A env sc ρ X fz s E vs rm ra S => by
  obtain ⟨v, w, rfl, r1, r2⟩ := ra.inv2; (first | obtain rfl := r1.inv | obtain ⟨_, rfl⟩ := r1.inv | obtain ⟨_, _, _, rfl, _, _⟩ := r1.inv | obtain ⟨_, _, rfl, _⟩ := r1.inv | obtain ⟨_, rfl, _⟩ := r1.inv | obtain ⟨_, _, _, rfl, _, _, _, _, _⟩ := r1.inv | obtain ⟨_, _, _, _, rfl, _, _, _, _⟩ := r1.inv | obtain ⟨_, _, _, _, rfl, _, _, _, _, _⟩ := r1.inv | cases r1); (first | obtain rfl := r2.inv | obtain ⟨_, rfl⟩ := r2.inv | obtain ⟨_, _, _, rfl, _, _⟩ := r2.inv | obtain ⟨_, _, rfl, _⟩ := r2.inv | obtain ⟨_, rfl, _⟩ := r2.inv | obtain ⟨_, _, _, rfl, _, _, _, _, _⟩ := r2.inv | obtain ⟨_, _, _, _, rfl, _, _, _, _⟩ := r2.inv | obtain ⟨_, _, _, _, rfl, _, _, _, _, _⟩ := r2.inv | cases r2)
  exact pow_int_small h0 h1 hi ((S.toks _).pe (.int _ _) h)
theorem WO_neg (h : Q (.int (-i)) μ) : WO c k (t1 (unaryOp .USub)) [.int i] μ Q := fun A env sc ρ X fz s E vs rm ra S => by
  obtain ⟨v, rfl, r1⟩ := ra.inv1; (first | obtain rfl := r1.inv | obtain ⟨_, rfl⟩ := r1.inv | obtain ⟨_, _, _, rfl, _, _⟩ := r1.inv | obtain ⟨_, _, rfl, _⟩ := r1.inv | obtain ⟨_, rfl, _⟩ := r1.inv | obtain ⟨_, _, _, rfl, _, _, _, _, _⟩ := r1.inv | obtain ⟨_, _, _, _, rfl, _, _, _, _⟩ := r1.inv | obtain ⟨_, _, _, _, rfl, _, _, _, _, _⟩ := r1.inv | cases r1)
  exact neg_int ((S.toks _).pe (.int _ _) h)
theorem WO_eq (h : Q (.bool (i == j)) μ) : WO c k (t2 (compareOp .Eq)) [.int i, .int j] μ Q := fun A env sc ρ X fz s E vs rm ra S => by
  obtain ⟨v, w, rfl, r1, r2⟩ := ra.inv2; (first | obtain rfl := r1.inv | obtain ⟨_, rfl⟩ := r1.inv | obtain ⟨_, _, _, rfl, _, _⟩ := r1.inv | obtain ⟨_, _, rfl, _⟩ := r1.inv | obtain ⟨_, rfl, _⟩ := r1.inv | obtain ⟨_, _, _, rfl, _, _, _, _, _⟩ := r1.inv | obtain ⟨_, _, _, _, rfl, _, _, _, _⟩ := r1.inv | obtain ⟨_, _, _, _, rfl, _, _, _, _, _⟩ := r1.inv | cases r1); (first | obtain rfl := r2.inv | obtain ⟨_, rfl⟩ := r2.inv | obtain ⟨_, _, _, rfl, _, _⟩ := r2.inv | obtain ⟨_, _, rfl, _⟩ := r2.inv | obtain ⟨_, rfl, _⟩ := r2.inv | obtain ⟨_, _, _, rfl, _, _, _, _, _⟩ := r2.inv | obtain ⟨_, _, _, _, rfl, _, _, _, _⟩ := r2.inv | obtain ⟨_, _, _, _, rfl, _, _, _, _, _⟩ := r2.inv | cases r2)
  exact PySem.P.eq_int (S.pe (.bool _) h)
theorem WO_ne (h : Q (.bool (i != j)) μ) : WO c k (t2 (compareOp .NotEq)) [.int i, .int j] μ Q := fun A env sc ρ X fz s E vs rm ra S => by
  obtain ⟨v, w, rfl, r1, r2⟩ := ra.inv2; (first | obtain rfl := r1.inv | obtain ⟨_, rfl⟩ := r1.inv | obtain ⟨_, _, _, rfl, _, _⟩ := r1.inv | obtain ⟨_, _, rfl, _⟩ := r1.inv | obtain ⟨_, rfl, _⟩ := r1.inv | obtain ⟨_, _, _, rfl, _, _, _, _, _⟩ := r1.inv | obtain ⟨_, _, _, _, rfl, _, _, _, _⟩ := r1.inv | obtain ⟨_, _, _, _, rfl, _, _, _, _, _⟩ := r1.inv | cases r1); (first | obtain rfl := r2.inv | obtain ⟨_, rfl⟩ := r2.inv | obtain ⟨_, _, _, rfl, _, _⟩ := r2.inv | obtain ⟨_, _, rfl, _⟩ := r2.inv | obtain ⟨_, rfl, _⟩ := r2.inv | obtain ⟨_, _, _, rfl, _, _, _, _, _⟩ := r2.inv | obtain ⟨_, _, _, _, rfl, _, _, _, _⟩ := r2.inv | obtain ⟨_, _, _, _, rfl, _, _, _, _, _⟩ := r2.inv | cases r2)
  exact PySem.P.ne_int (S.pe (.bool _) h)
theorem WO_lt (h : Q (.bool (decide (i < j))) μ) : WO c k (t2 (compareOp .Lt)) [.int i, .int j] μ Q := fun A env sc ρ X fz s E vs rm ra S => by
  obtain ⟨v, w, rfl, r1, r2⟩ := ra.inv2; (first | obtain rfl := r1.inv | obtain ⟨_, rfl⟩ := r1.inv | obtain ⟨_, _, _, rfl, _, _⟩ := r1.inv | obtain ⟨_, _, rfl, _⟩ := r1.inv | obtain ⟨_, rfl, _⟩ := r1.inv | obtain ⟨_, _, _, rfl, _, _, _, _, _⟩ := r1.inv | obtain ⟨_, _, _, _, rfl, _, _, _, _⟩ := r1.inv | obtain ⟨_, _, _, _, rfl, _, _, _, _, _⟩ := r1.inv | cases r1); (first | obtain rfl := r2.inv | obtain ⟨_, rfl⟩ := r2.inv | obtain ⟨_, _, _, rfl, _, _⟩ := r2.inv | obtain ⟨_, _, rfl, _⟩ := r2.inv | obtain ⟨_, rfl, _⟩ := r2.inv | obtain ⟨_, _, _, rfl, _, _, _, _, _⟩ := r2.inv | obtain ⟨_, _, _, _, rfl, _, _, _, _⟩ := r2.inv | obtain ⟨_, _, _, _, rfl, _, _, _, _, _⟩ := r2.inv | cases r2)
  exact PySem.P.lt_int (S.pe (.bool _) h)
theorem WO_gt (h : Q (.bool (decide (i > j))) μ) : WO c k (t2 (compareOp .Gt)) [.int i, .int j] μ Q := fun A env sc ρ X fz s E vs rm ra S => by
  obtain ⟨v, w, rfl, r1, r2⟩ := ra.inv2; (first | obtain rfl := r1.inv | obtain ⟨_, rfl⟩ := r1.inv | obtain ⟨_, _, _, rfl, _, _⟩ := r1.inv | obtain ⟨_, _, rfl, _⟩ := r1.inv | obtain ⟨_, rfl, _⟩ := r1.inv | obtain ⟨_, _, _, rfl, _, _, _, _, _⟩ := r1.inv | obtain ⟨_, _, _, _, rfl, _, _, _, _⟩ := r1.inv | obtain ⟨_, _, _, _, rfl, _, _, _, _, _⟩ := r1.inv | cases r1); (first | obtain rfl := r2.inv | obtain ⟨_, rfl⟩ := r2.inv | obtain ⟨_, _, _, rfl, _, _⟩ := r2.inv | obtain ⟨_, _, rfl, _⟩ := r2.inv | obtain ⟨_, rfl, _⟩ := r2.inv | obtain ⟨_, _, _, rfl, _, _, _, _, _⟩ := r2.inv | obtain ⟨_, _, _, _, rfl, _, _, _, _⟩ := r2.inv | obtain ⟨_, _, _, _, rfl, _, _, _, _, _⟩ := r2.inv | cases r2)
  exact PySem.P.gt_int (S.pe (.bool _) h)
theorem WO_le (h : Q (.bool (decide (i ≤ j))) μ) : WO c k (t2 (compareOp .LtE)) [.int i, .int j] μ Q := fun A env sc ρ X fz s E vs rm ra S => by
  obtain ⟨v, w, rfl, r1, r2⟩ := ra.inv2; (first | obtain rfl := r1.inv | obtain ⟨_, rfl⟩ := r1.inv | obtain ⟨_, _, _, rfl, _, _⟩ := r1.inv | obtain ⟨_, _, rfl, _⟩ := r1.inv | obtain ⟨_, rfl, _⟩ := r1.inv | obtain ⟨_, _, _, rfl, _, _, _, _, _⟩ := r1.inv | obtain ⟨_, _, _, _, rfl, _, _, _, _⟩ := r1.inv | obtain ⟨_, _, _, _, rfl, _, _, _, _, _⟩ := r1.inv | cases r1); (first | obtain rfl := r2.inv | obtain ⟨_, rfl⟩ := r2.inv | obtain ⟨_, _, _, rfl, _, _⟩ := r2.inv | obtain ⟨_, _, rfl, _⟩ := r2.inv | obtain ⟨_, rfl, _⟩ := r2.inv | obtain ⟨_, _, _, rfl, _, _, _, _, _⟩ := r2.inv | obtain ⟨_, _, _, _, rfl, _, _, _, _⟩ := r2.inv | obtain ⟨_, _, _, _, rfl, _, _, _, _, _⟩ := r2.inv | cases r2)
  exact PySem.P.le_int (S.pe (.bool _) h)
theorem WO_ge (h : Q (.bool (decide (i ≥ j))) μ) : WO c k (t2 (compareOp .GtE)) [.int i, .int j] μ Q := fun A env sc ρ X fz s E vs rm ra S => by
  obtain ⟨v, w, rfl, r1, r2⟩ := ra.inv2; (first | obtain rfl := r1.inv | obtain ⟨_, rfl⟩ := r1.inv | obtain ⟨_, _, _, rfl, _, _⟩ := r1.inv | obtain ⟨_, _, rfl, _⟩ := r1.inv | obtain ⟨_, rfl, _⟩ := r1.inv | obtain ⟨_, _, _, rfl, _, _, _, _, _⟩ := r1.inv | obtain ⟨_, _, _, _, rfl, _, _, _, _⟩ := r1.inv | obtain ⟨_, _, _, _, rfl, _, _, _, _, _⟩ := r1.inv | cases r1); (first | obtain rfl := r2.inv | obtain ⟨_, rfl⟩ := r2.inv | obtain ⟨_, _, _, rfl, _, _⟩ := r2.inv | obtain ⟨_, _, rfl, _⟩ := r2.inv | obtain ⟨_, rfl, _⟩ := r2.inv | obtain ⟨_, _, _, rfl, _, _, _, _, _⟩ := r2.inv | obtain ⟨_, _, _, _, rfl, _, _, _, _⟩ := r2.inv | obtain ⟨_, _, _, _, rfl, _, _, _, _, _⟩ := r2.inv | cases r2)
  exact PySem.P.ge_int (S.pe (.bool _) h)
theorem WO_isNone {p : PV} (hp : ∀ v, R c (fun _ => none) v p → True) (b : Bool) (hb : ∀ fz v, R c fz v p → (v == Value.none) = b) (h : Q (.bool b) μ) : WO c k (t2 (compareOp .Is)) [p, .none] μ Q := fun A env sc ρ X fz s E vs rm ra S => by
  obtain ⟨v, w, rfl, r1, r2⟩ := ra.inv2; (first | obtain rfl := r2.inv | obtain ⟨_, rfl⟩ := r2.inv | obtain ⟨_, _, _, rfl, _, _⟩ := r2.inv | obtain ⟨_, _, rfl, _⟩ := r2.inv | obtain ⟨_, rfl, _⟩ := r2.inv | obtain ⟨_, _, _, rfl, _, _, _, _, _⟩ := r2.inv | obtain ⟨_, _, _, _, rfl, _, _, _, _⟩ := r2.inv | obtain ⟨_, _, _, _, rfl, _, _, _, _, _⟩ := r2.inv | cases r2)
  exact is_none_gen (by rw [hb fz v r1]; exact S.pe (.bool _) h)
end intops

section blts
variable {Q : PV → Mu → Prop}
noncomputable abbrev cl (f : Value) : List Value → Sem Value := fun vs => call f vs
theorem WO_len_list {l : List PV} (hl : l.length ≤ 1000000) (h : Q (.int l.length) μ) : WO c k (cl (.builtin "len")) [.list l] μ Q := fun A env sc ρ X fz s E vs rm ra S => by
  obtain ⟨v, rfl, r1⟩ := ra.inv1; (first | obtain rfl := r1.inv | obtain ⟨_, rfl⟩ := r1.inv | obtain ⟨_, _, _, rfl, _, _⟩ := r1.inv | obtain ⟨_, _, rfl, _⟩ := r1.inv | obtain ⟨_, rfl, _⟩ := r1.inv | obtain ⟨_, _, _, rfl, _, _, _, _, _⟩ := r1.inv | obtain ⟨_, _, _, _, rfl, _, _, _, _⟩ := r1.inv | obtain ⟨_, _, _, _, rfl, _, _, _, _, _⟩ := r1.inv | cases r1)
  rename_i a vs n ha ra
  have e := ra.length
  exact len_list ⟨_, S.x.ef _ _ ha, rfl, _, rfl⟩ (by rw [List.size_toArray, e]; lia) ((S.toks _).pe (by rw [List.size_toArray, e]; exact .int _ _) h)
theorem WO_int_int {i : Int} (h : Q (.int i) μ) : WO c k (cl (.type "int")) [.int i] μ Q := fun A env sc ρ X fz s E vs rm ra S => by
  obtain ⟨v, rfl, r1⟩ := ra.inv1; (first | obtain rfl := r1.inv | obtain ⟨_, rfl⟩ := r1.inv | obtain ⟨_, _, _, rfl, _, _⟩ := r1.inv | obtain ⟨_, _, rfl, _⟩ := r1.inv | obtain ⟨_, rfl, _⟩ := r1.inv | obtain ⟨_, _, _, rfl, _, _, _, _, _⟩ := r1.inv | obtain ⟨_, _, _, _, rfl, _, _, _, _⟩ := r1.inv | obtain ⟨_, _, _, _, rfl, _, _, _, _, _⟩ := r1.inv | cases r1)
  exact call_int_int (S.pe (.int _ _) h)
theorem WO_int_bool {b : Bool} (h : Q (.int (if b then 1 else 0)) μ) : WO c k (cl (.type "int")) [.bool b] μ Q := fun A env sc ρ X fz s E vs rm ra S => by
  obtain ⟨v, rfl, r1⟩ := ra.inv1; (first | obtain rfl := r1.inv | obtain ⟨_, rfl⟩ := r1.inv | obtain ⟨_, _, _, rfl, _, _⟩ := r1.inv | obtain ⟨_, _, rfl, _⟩ := r1.inv | obtain ⟨_, rfl, _⟩ := r1.inv | obtain ⟨_, _, _, rfl, _, _, _, _, _⟩ := r1.inv | obtain ⟨_, _, _, _, rfl, _, _, _, _⟩ := r1.inv | obtain ⟨_, _, _, _, rfl, _, _, _, _, _⟩ := r1.inv | cases r1)
  exact call_int_bool ((S.toks _).pe (.int _ _) h)
theorem WO_max2 {i j : Int} (h : Q (.int (if j > i then j else i)) μ) : WO c k (cl (.builtin "max")) [.int i, .int j] μ Q := fun A env sc ρ X fz s E vs rm ra S => by
  obtain ⟨v, w, rfl, r1, r2⟩ := ra.inv2; (first | obtain rfl := r1.inv | obtain ⟨_, rfl⟩ := r1.inv | obtain ⟨_, _, _, rfl, _, _⟩ := r1.inv | obtain ⟨_, _, rfl, _⟩ := r1.inv | obtain ⟨_, rfl, _⟩ := r1.inv | obtain ⟨_, _, _, rfl, _, _, _, _, _⟩ := r1.inv | obtain ⟨_, _, _, _, rfl, _, _, _, _⟩ := r1.inv | obtain ⟨_, _, _, _, rfl, _, _, _, _, _⟩ := r1.inv | cases r1); (first | obtain rfl := r2.inv | obtain ⟨_, rfl⟩ := r2.inv | obtain ⟨_, _, _, rfl, _, _⟩ := r2.inv | obtain ⟨_, _, rfl, _⟩ := r2.inv | obtain ⟨_, rfl, _⟩ := r2.inv | obtain ⟨_, _, _, rfl, _, _, _, _, _⟩ := r2.inv | obtain ⟨_, _, _, _, rfl, _, _, _, _⟩ := r2.inv | obtain ⟨_, _, _, _, rfl, _, _, _, _, _⟩ := r2.inv | cases r2)
  refine max_two_ints rm.1 fun h' tk hk => ?_
  split
  · rw [if_pos ‹_›] at h; exact (S.keep (s' := { s with heap := h', toks := tk }) rfl rfl hk).pe (.int _ _) h
  · rw [if_neg ‹_›] at h; exact (S.keep (s' := { s with heap := h', toks := tk }) rfl rfl hk).pe (.int _ _) h
theorem WO_min2 {i j : Int} (h : Q (.int (if j < i then j else i)) μ) : WO c k (cl (.builtin "min")) [.int i, .int j] μ Q := fun A env sc ρ X fz s E vs rm ra S => by
  obtain ⟨v, w, rfl, r1, r2⟩ := ra.inv2; (first | obtain rfl := r1.inv | obtain ⟨_, rfl⟩ := r1.inv | obtain ⟨_, _, _, rfl, _, _⟩ := r1.inv | obtain ⟨_, _, rfl, _⟩ := r1.inv | obtain ⟨_, rfl, _⟩ := r1.inv | obtain ⟨_, _, _, rfl, _, _, _, _, _⟩ := r1.inv | obtain ⟨_, _, _, _, rfl, _, _, _, _⟩ := r1.inv | obtain ⟨_, _, _, _, rfl, _, _, _, _, _⟩ := r1.inv | cases r1); (first | obtain rfl := r2.inv | obtain ⟨_, rfl⟩ := r2.inv | obtain ⟨_, _, _, rfl, _, _⟩ := r2.inv | obtain ⟨_, _, rfl, _⟩ := r2.inv | obtain ⟨_, rfl, _⟩ := r2.inv | obtain ⟨_, _, _, rfl, _, _, _, _, _⟩ := r2.inv | obtain ⟨_, _, _, _, rfl, _, _, _, _⟩ := r2.inv | obtain ⟨_, _, _, _, rfl, _, _, _, _, _⟩ := r2.inv | cases r2)
  refine min_two_ints rm.1 fun h' tk hk => ?_
  split
  · rw [if_pos ‹_›] at h; exact (S.keep (s' := { s with heap := h', toks := tk }) rfl rfl hk).pe (.int _ _) h
  · rw [if_neg ‹_›] at h; exact (S.keep (s' := { s with heap := h', toks := tk }) rfl rfl hk).pe (.int _ _) h
theorem Sim.peF {v : Value} {o : Obj} {t : Nat} {pv : PV} (S : Sim c env sc X fz ρ μ s) (hf : o.isFreed = false) (hr : R c (fz.add s.heap.objs.size o) v pv) (hq : Q pv μ) : PE c env sc X fz ρ Q v { s with heap := s.heap.push o, toks := t } :=
  ⟨pv, μ, _, hq, hr, Led.le_add (Led.fresh S.x.ef (Nat.le_refl _)), S.pushF o t hf⟩
theorem WO_range1 {n : Int} (h : Q (.rng 0 n 1) μ) : WO c k (cl (.type "range")) [.int n] μ Q := fun A env sc ρ X fz s E vs rm ra S => by
  obtain ⟨v, rfl, r1⟩ := ra.inv1; (first | obtain rfl := r1.inv | obtain ⟨_, rfl⟩ := r1.inv | obtain ⟨_, _, _, rfl, _, _⟩ := r1.inv | obtain ⟨_, _, rfl, _⟩ := r1.inv | obtain ⟨_, rfl, _⟩ := r1.inv | obtain ⟨_, _, _, rfl, _, _, _, _, _⟩ := r1.inv | obtain ⟨_, _, _, _, rfl, _, _, _, _⟩ := r1.inv | obtain ⟨_, _, _, _, rfl, _, _, _, _, _⟩ := r1.inv | cases r1)
  exact call_range_1 (S.peF rfl (.rng (Led.add_self ..)) h)
theorem WO_range2 {m n : Int} (h : Q (.rng m n 1) μ) : WO c k (cl (.type "range")) [.int m, .int n] μ Q := fun A env sc ρ X fz s E vs rm ra S => by
  obtain ⟨v, w, rfl, r1, r2⟩ := ra.inv2; (first | obtain rfl := r1.inv | obtain ⟨_, rfl⟩ := r1.inv | obtain ⟨_, _, _, rfl, _, _⟩ := r1.inv | obtain ⟨_, _, rfl, _⟩ := r1.inv | obtain ⟨_, rfl, _⟩ := r1.inv | obtain ⟨_, _, _, rfl, _, _, _, _, _⟩ := r1.inv | obtain ⟨_, _, _, _, rfl, _, _, _, _⟩ := r1.inv | obtain ⟨_, _, _, _, rfl, _, _, _, _, _⟩ := r1.inv | cases r1); (first | obtain rfl := r2.inv | obtain ⟨_, rfl⟩ := r2.inv | obtain ⟨_, _, _, rfl, _, _⟩ := r2.inv | obtain ⟨_, _, rfl, _⟩ := r2.inv | obtain ⟨_, rfl, _⟩ := r2.inv | obtain ⟨_, _, _, rfl, _, _, _, _, _⟩ := r2.inv | obtain ⟨_, _, _, _, rfl, _, _, _, _⟩ := r2.inv | obtain ⟨_, _, _, _, rfl, _, _, _, _, _⟩ := r2.inv | cases r2)
  exact call_range_2 (S.peF rfl (.rng (Led.add_self ..)) h)
theorem WO_range3 {m n d : Int} (hd : d ≠ 0) (hb : d.natAbs < 1073741824) (h : Q (.rng m n d) μ) : WO c k (cl (.type "range")) [.int m, .int n, .int d] μ Q := fun A env sc ρ X fz s E vs rm ra S => by
  obtain ⟨v, w, x, rfl, r1, r2, r3⟩ := ra.inv3; (first | obtain rfl := r1.inv | obtain ⟨_, rfl⟩ := r1.inv | obtain ⟨_, _, _, rfl, _, _⟩ := r1.inv | obtain ⟨_, _, rfl, _⟩ := r1.inv | obtain ⟨_, rfl, _⟩ := r1.inv | obtain ⟨_, _, _, rfl, _, _, _, _, _⟩ := r1.inv | obtain ⟨_, _, _, _, rfl, _, _, _, _⟩ := r1.inv | obtain ⟨_, _, _, _, rfl, _, _, _, _, _⟩ := r1.inv | cases r1); (first | obtain rfl := r2.inv | obtain ⟨_, rfl⟩ := r2.inv | obtain ⟨_, _, _, rfl, _, _⟩ := r2.inv | obtain ⟨_, _, rfl, _⟩ := r2.inv | obtain ⟨_, rfl, _⟩ := r2.inv | obtain ⟨_, _, _, rfl, _, _, _, _, _⟩ := r2.inv | obtain ⟨_, _, _, _, rfl, _, _, _, _⟩ := r2.inv | obtain ⟨_, _, _, _, rfl, _, _, _, _, _⟩ := r2.inv | cases r2); (first | obtain rfl := r3.inv | obtain ⟨_, rfl⟩ := r3.inv | obtain ⟨_, _, _, rfl, _, _⟩ := r3.inv | obtain ⟨_, _, rfl, _⟩ := r3.inv | obtain ⟨_, rfl, _⟩ := r3.inv | obtain ⟨_, _, _, rfl, _, _, _, _, _⟩ := r3.inv | obtain ⟨_, _, _, _, rfl, _, _, _, _⟩ := r3.inv | obtain ⟨_, _, _, _, rfl, _, _, _, _, _⟩ := r3.inv | cases r3)
  exact call_range_3 hd (S.peF rfl (.rng (Led.add_self ..)) h) (.inl (PyProof.noPylong_small hb))
theorem WO_tuple {l : List PV} (hl : l.length ≤ 1000000) (h : Q (.tuple l) μ) : WO c k (cl (.type "tuple")) [.list l] μ Q := fun A env sc ρ X fz s E vs rm ra S => by
  obtain ⟨v, rfl, r1⟩ := ra.inv1; (first | obtain rfl := r1.inv | obtain ⟨_, rfl⟩ := r1.inv | obtain ⟨_, _, _, rfl, _, _⟩ := r1.inv | obtain ⟨_, _, rfl, _⟩ := r1.inv | obtain ⟨_, rfl, _⟩ := r1.inv | obtain ⟨_, _, _, rfl, _, _, _, _, _⟩ := r1.inv | obtain ⟨_, _, _, _, rfl, _, _, _, _⟩ := r1.inv | obtain ⟨_, _, _, _, rfl, _, _, _, _, _⟩ := r1.inv | cases r1)
  rename_i a vs n ha ra
  have e := ra.length
  refine call_tuple_list ⟨_, S.x.ef _ _ ha, rfl, _, rfl⟩ (fun h' hk => ?_) (by rw [List.size_toArray, e, sizeLine_eq]; lia)
  have S' : Sim c env sc X fz ρ μ { s with heap := h' } := S.keep rfl rfl hk
  exact (S'.peF (t := s.toks) (o := tO vs 0) rfl (.tuple (Led.add_self ..) (ra.mono (Led.le_add (Led.fresh S'.x.ef (Nat.le_refl _))))) h)
theorem WO_list {l : List PV} (hl : l.length ≤ 1000000) (h : Q (.list l) μ) : WO c k (cl (.type "list")) [.list l] μ Q := fun A env sc ρ X fz s E vs rm ra S => by
  obtain ⟨v, rfl, r1⟩ := ra.inv1; (first | obtain rfl := r1.inv | obtain ⟨_, rfl⟩ := r1.inv | obtain ⟨_, _, _, rfl, _, _⟩ := r1.inv | obtain ⟨_, _, rfl, _⟩ := r1.inv | obtain ⟨_, rfl, _⟩ := r1.inv | obtain ⟨_, _, _, rfl, _, _, _, _, _⟩ := r1.inv | obtain ⟨_, _, _, _, rfl, _, _, _, _⟩ := r1.inv | obtain ⟨_, _, _, _, rfl, _, _, _, _, _⟩ := r1.inv | cases r1)
  rename_i a vs n ha ra
  have e := ra.length
  refine call_list_seq (hsz := by rw [List.size_toArray, e, sizeLine_eq]; lia) a (.inl rfl) (S.x.ef _ _ ha) rfl rfl (fun h' c' hk hD => ?_)
  exact ⟨_, μ, _, h, .list (Led.add_self ..) (ra.mono (Led.le_add (Led.fresh S.x.ef (Nat.le_refl _)))), Led.le_add (Led.fresh S.x.ef (Nat.le_refl _)), S.addNew (s' := { s with heap := h' }) rfl rfl hk hD⟩
theorem WO_mul_list {l : List PV} {x : Int} (h0 : 0 ≤ x) (hx : l.length * x.toNat ≤ 1000000) (hx2 : x ≤ 1000000) (h : Q (.list (List.replicate x.toNat l).flatten) μ) : WO c k (t2 (binaryOp .Mult)) [.list l, .int x] μ Q := fun A env sc ρ X fz s E vs rm ra S => by
  obtain ⟨v, w, rfl, r1, r2⟩ := ra.inv2; (first | obtain rfl := r1.inv | obtain ⟨_, rfl⟩ := r1.inv | obtain ⟨_, _, _, rfl, _, _⟩ := r1.inv | obtain ⟨_, _, rfl, _⟩ := r1.inv | obtain ⟨_, rfl, _⟩ := r1.inv | obtain ⟨_, _, _, rfl, _, _, _, _, _⟩ := r1.inv | obtain ⟨_, _, _, _, rfl, _, _, _, _⟩ := r1.inv | obtain ⟨_, _, _, _, rfl, _, _, _, _, _⟩ := r1.inv | cases r1); (first | obtain rfl := r2.inv | obtain ⟨_, rfl⟩ := r2.inv | obtain ⟨_, _, _, rfl, _, _⟩ := r2.inv | obtain ⟨_, _, rfl, _⟩ := r2.inv | obtain ⟨_, rfl, _⟩ := r2.inv | obtain ⟨_, _, _, rfl, _, _, _, _, _⟩ := r2.inv | obtain ⟨_, _, _, _, rfl, _, _, _, _⟩ := r2.inv | obtain ⟨_, _, _, _, rfl, _, _, _, _, _⟩ := r2.inv | cases r2)
  rename_i a ws n ha ra' u
  have e := ra'.length
  obtain ⟨m, news, F, N, hall, hm⟩ := S.fr
  refine mul_list F N (S.x.ef _ _ ha) (by lia) (by lia) (by rw [List.size_toArray, e]; lia) fun h' F' N' => ?_
  have hD := (N' _ (.head _)).1
  have S' : Sim c env sc X fz ρ μ { s with heap := h' } := S.back (s' := { s with heap := h' }) hall hm F' (fun p hp => N' p (List.mem_cons_of_mem _ hp)) rfl rfl
  have hfl : (List.foldl (fun (x1 x2 : Array Value) => x1 ++ x2) #[] (List.replicate (if ws.toArray.isEmpty = true then 0 else x.toNat) ws.toArray)) = ((List.replicate x.toNat ws).flatten).toArray := by
    have key : ∀ (n : Nat) (acc : List Value), List.foldl (fun (x1 x2 : Array Value) => x1 ++ x2) acc.toArray (List.replicate n ws.toArray) = (acc ++ (List.replicate n ws).flatten).toArray := by
      intro n
      induction n with
      | zero => intro acc; simp
      | succ n ih =>
        intro acc
        rw [List.replicate_succ, List.foldl_cons]
        have : acc.toArray ++ ws.toArray = (acc ++ ws).toArray := by simp
        rw [this, ih]
        simp [List.replicate_succ]
    by_cases hw : ws = []
    · subst hw; simp
    · have : ws.toArray.isEmpty = false := by cases ws with | nil => exact absurd rfl hw | cons => rfl
      rw [this]
      simp only [Bool.false_eq_true, if_false]
      have := key x.toNat []
      simpa using this
  rw [hfl] at hD
  have S₂ := S'.addF (a := s.heap.objs.size) hD (Led.fresh S.x.ex (Nat.le_refl _)) (Led.fresh S.x.ef (Nat.le_refl _)) (Mu.fresh S.x (Nat.le_refl _)) (Nat.ne_of_gt S.e.lt_loc) fun x hx e => Nat.lt_irrefl _ (S.e.lt_cells hx e)
  refine ⟨_, μ, _, h, .list (Led.add_self ..) (RA.mono (Led.le_add (Led.fresh S.x.ef (Nat.le_refl _))) ?_), Led.le_add (Led.fresh S.x.ef (Nat.le_refl _)), S₂⟩
  generalize x.toNat = n
  induction n with
  | zero => exact .nil
  | succ n ih => rw [List.replicate_succ, List.replicate_succ]; exact ra'.append ih
theorem WO_mul_listM {l : List PV} {x : Int} (h0 : 0 ≤ x) (hx : l.length * x.toNat ≤ 1000000) (hx2 : x ≤ 1000000) (h : ∀ a, μ a = none → Q (.ptr a) (μ.set a (.list (List.replicate x.toNat l).flatten))) : WO c k (t2 (binaryOp .Mult)) [.list l, .int x] μ Q := fun A env sc ρ X fz s E vs rm ra S => by
  obtain ⟨v, w, rfl, r1, r2⟩ := ra.inv2; (first | obtain rfl := r1.inv | obtain ⟨_, rfl⟩ := r1.inv | obtain ⟨_, _, _, rfl, _, _⟩ := r1.inv | obtain ⟨_, _, rfl, _⟩ := r1.inv | obtain ⟨_, rfl, _⟩ := r1.inv | obtain ⟨_, _, _, rfl, _, _, _, _, _⟩ := r1.inv | obtain ⟨_, _, _, _, rfl, _, _, _, _⟩ := r1.inv | obtain ⟨_, _, _, _, rfl, _, _, _, _, _⟩ := r1.inv | cases r1); (first | obtain rfl := r2.inv | obtain ⟨_, rfl⟩ := r2.inv | obtain ⟨_, _, _, rfl, _, _⟩ := r2.inv | obtain ⟨_, _, rfl, _⟩ := r2.inv | obtain ⟨_, rfl, _⟩ := r2.inv | obtain ⟨_, _, _, rfl, _, _, _, _, _⟩ := r2.inv | obtain ⟨_, _, _, _, rfl, _, _, _, _⟩ := r2.inv | obtain ⟨_, _, _, _, rfl, _, _, _, _, _⟩ := r2.inv | cases r2)
  rename_i a ws n ha ra' u
  have e := ra'.length
  obtain ⟨m, news, F, N, hall, hm⟩ := S.fr
  refine mul_list F N (S.x.ef _ _ ha) (by lia) (by lia) (by rw [List.size_toArray, e]; lia) fun h' F' N' => ?_
  have hD := (N' _ (.head _)).1
  have S' : Sim c env sc X fz ρ μ { s with heap := h' } := S.back (s' := { s with heap := h' }) hall hm F' (fun p hp => N' p (List.mem_cons_of_mem _ hp)) rfl rfl
  have hfl : (List.foldl (fun (x1 x2 : Array Value) => x1 ++ x2) #[] (List.replicate (if ws.toArray.isEmpty = true then 0 else x.toNat) ws.toArray)) = ((List.replicate x.toNat ws).flatten).toArray := by
    have key : ∀ (n : Nat) (acc : List Value), List.foldl (fun (x1 x2 : Array Value) => x1 ++ x2) acc.toArray (List.replicate n ws.toArray) = (acc ++ (List.replicate n ws).flatten).toArray := by
      intro n
      induction n with
      | zero => intro acc; simp
      | succ n ih =>
        intro acc
        rw [List.replicate_succ, List.foldl_cons]
        have : acc.toArray ++ ws.toArray = (acc ++ ws).toArray := by simp
        rw [this, ih]
        simp [List.replicate_succ]
    by_cases hw : ws = []
    · subst hw; simp
    · have : ws.toArray.isEmpty = false := by cases ws with | nil => exact absurd rfl hw | cons => rfl
      rw [this]
      simp only [Bool.false_eq_true, if_false]
      have := key x.toNat []
      simpa using this
  rw [hfl] at hD
  have hra : RA c fz (List.replicate x.toNat ws).flatten (List.replicate x.toNat l).flatten := by
    generalize x.toNat = n
    induction n with
    | zero => exact .nil
    | succ n ih => rw [List.replicate_succ, List.replicate_succ]; exact ra'.append ih
  have S₂ : Sim c env sc X fz ρ (μ.set s.heap.objs.size (.list (List.replicate x.toNat l).flatten)) { s with heap := h' } := by
    refine ⟨S'.x.setμ rfl rfl (fun _ _ _ e => e) hD (.list hra) (Led.fresh S.x.ex (Nat.le_refl _)) (Led.fresh S.x.ef (Nat.le_refl _)), S'.e.setμ (fun _ _ _ e => e) (Nat.ne_of_lt S.e.lt_loc) (Led.fresh S.x.ex (Nat.le_refl _)) (fun x b hx e => Nat.ne_of_lt (S.e.lt_cells hx e)), S.ok⟩
  exact ⟨_, _, fz, h _ (Mu.fresh S.x (Nat.le_refl _)), .ptr _, .refl _, S₂⟩
end blts
end
structure CxOk (c : Cx) : Prop where
  g : c.h₀.Ns mainGlobals c.mg
  b : c.h₀.Ns builtinsNs c.mb
  lim : c.h₀.NoLimit
  blt : ∀ x : Str, x ≠ "__name__" → c.mb x = bootBuiltins x
  X : c.K.In c.h₀

noncomputable def Glob' (c : Cx) (x : Str) (v : Value) : Prop := c.mg x = some v ∨ (c.mg x = none ∧ c.mb x = some v)
noncomputable def Callee (c : Cx) (f : Value) : Prop := ∀ h : Heap, (∀ b o, c.h₀.get? b = some o → h.get? b = some o) → ∃ kp, (kp = Keeper.frame ∨ kp = Keeper.machine ∨ kp = Keeper.boundFrame) ∧ Looks c.M h (keeperOf f) kp

section
variable {c : Cx} {k : Nat} {sc : SC} {ρ : Rho} {μ : Mu} {env : Env} {X fz fz₁ : Led} {s : Shared} {A : Around} {E : Value → Shared → Prop}

theorem callee_builtin (id : String) : Callee c (.builtin id) := fun h _ => ⟨.machine, .inr (.inl rfl), Looks.of_pure rfl⟩
theorem callee_type (id : String) : Callee c (.type id) := fun h _ => ⟨.machine, .inr (.inl rfl), Looks.of_pure rfl⟩
theorem callee_fn {fv : Addr} {names : List Str} {body : List Stmt} {scope : Scope} (F : Fn c fv names body scope) : Callee c (.ref fv) := fun h hk => by
  obtain ⟨⟨oc, od, odt, os⟩, fd, ho, hd, _⟩ := F
  simp only at hd; subst hd
  exact ⟨.frame, .inl rfl, (Looks.ld (part := none) (hk _ _ ho)).andThen .now⟩
theorem callee_cls {C : Addr} (ok : CxOk c) (e : keepIn c.K (.ref C) = true) : Callee c (.ref C) := fun h hk => by
  obtain ⟨kp, a, b⟩ := looks_keep (M := c.M) e (ok.X.keeps hk)
  exact ⟨kp, a.elim .inl (fun e => .inr (.inl e)), b⟩

theorem Sim.base (S : Sim c env sc X fz ρ μ s) : ∀ b o, c.h₀.get? b = some o → s.heap.get? b = some o := fun b o e => S.x.ex _ _ (S.x.base _ _ e)
theorem SimX.up (S : SimX c X fz μ s) : ∀ b o, c.h₀.get? b = some o → s.heap.get? b = some o := fun b o e => S.ex _ _ (S.base _ _ e)

theorem WE_Glob {x : Str} {v : Value} {pos : Pos} {Q : PV → Mu → Prop} (ok : CxOk c) (hk : sc.scope.names.lookup x = some .globalImplicit) (hg : Glob' c x v) (hd : (x == ("__debug__" : Str)) = false) (h : Q (.raw v) μ) : WE c k sc ρ μ (.Name x pos) Q :=
  fun A env X fz s E rm S => by
    refine Name_function_global S.fn (S.kind hk) ?_ hd
    rcases hg with hg | ⟨h1, h2⟩
    · exact loadGlobal_global (by rw [S.ok.glob]; exact ok.g.keeps S.base) hg (S.pe (.raw v) h)
    · exact loadGlobal_builtin (by rw [S.ok.glob]; exact ok.g.keeps S.base) h1 (by rw [S.ok.blt]; exact ok.b.keeps S.base) h2 (S.pe (.raw v) h)
noncomputable abbrev kCall (c : Cx) (k : Nat) (v : Value) (Q : PV → Mu → Prop) : List PV → Mu → Prop := fun ps μ₁ => WO c k (cl v) ps μ₁ Q
theorem WE_CallN {x : Str} {v : Value} {p pos : Pos} {es : List Expr} {Q : PV → Mu → Prop} (ok : CxOk c) (hk : sc.scope.names.lookup x = some .globalImplicit) (hg : Glob' c x v) (hd : (x == ("__debug__" : Str)) = false) (hcal : Callee c v) (hes : es.all notStar = true)
    (h : WEs c k sc ρ μ es (kCall c k v Q)) : WE c k sc ρ μ (.Call (.Name x p) es [] pos) Q := fun A env X fz s E rm S => by
  refine Call_ ?_
  refine (WE_Glob (Q := fun w μ' => w = .raw v ∧ μ' = μ) ok hk hg hd ⟨rfl, rfl⟩).use S rm fun w pw μ' fz' s' h₁ rw' l1 S' => ?_
  obtain ⟨rfl, rfl⟩ := h₁
  (first | obtain rfl := rw'.inv | obtain ⟨_, rfl⟩ := rw'.inv | obtain ⟨_, _, _, rfl, _, _⟩ := rw'.inv | obtain ⟨_, _, rfl, _⟩ := rw'.inv | obtain ⟨_, rfl, _⟩ := rw'.inv | obtain ⟨_, _, _, rfl, _, _, _, _, _⟩ := rw'.inv | obtain ⟨_, _, _, _, rfl, _, _, _, _⟩ := rw'.inv | obtain ⟨_, _, _, _, rfl, _, _, _, _, _⟩ := rw'.inv | cases rw')
  refine upE l1 (callWith_any hes hcal h S' rm fun vs ps μ₂ fz₂ s₂ h₂ ra l2 S₂ => ?_)
  exact upE l2 (h₂ A env sc ρ X fz₂ s₂ E vs rm ra S₂)

noncomputable def notCall (e : Expr) : Bool := e.ctorIdx != 16
theorem attributeBase_of {o : Expr} (h : notCall o = true) (attr : Str) (env : Env) (w : Sem Value) : attributeBase o attr env w = w := by
  cases o <;> first | rfl | cases h
theorem methodCallForm_plain {es : List Expr} (hes : es.all notStar = true) (hl : es.length < 30) (pos : Pos) : methodCallForm (es.length + 0) (backTo pos (starEach es env)) (backToKw pos (keywordEach [] env)) = true := by
  unfold methodCallForm
  have : ∀ l : List Expr, l.all notStar = true → ((backTo pos (starEach l env)).all (fun x => !x.1)) = true := by
    intro l
    induction l with
    | nil => intro _; rfl
    | cons e l ih =>
      intro hl
      rw [List.all_cons, Bool.and_eq_true] at hl
      rw [starEach_of hl.1]
      show (!false && (backTo pos (starEach l env)).all (fun x => !x.1)) = true
      rw [ih hl.2]; rfl
  have h1 := this es hes
  simp only [Bool.and_eq_true, decide_eq_true_eq]
  refine ⟨⟨h1, rfl⟩, ?_⟩
  show es.length + 0 + 0 < 30
  lia

noncomputable def Meth (c : Cx) (μ : Mu) (o : PV) (name : Str) (f : Value) (first : List PV) : Prop :=
  ∀ (A : Around) (env : Env) (sc : SC) (ρ : Rho) (X fz : Led) (s : Shared) (E : Value → Shared → Prop) (v : Value) (pl : Sem Bool) (P : Value × List Value → Shared → Prop), R c fz v o → Sim c env sc X fz ρ μ s →
    (∀ vs n, RA c fz vs first → P (f, vs) { s with toks := n }) → wpAny c.M A (getMethod v name pl) P E s
noncomputable abbrev kMc (c : Cx) (k : Nat) (f : Value) (first : List PV) (Q : PV → Mu → Prop) : List PV → Mu → Prop := fun ps μ₂ => WO c k (cl f) (first ++ ps) μ₂ Q
noncomputable abbrev kMe (c : Cx) (k : Nat) (sc : SC) (ρ : Rho) (name : Str) (f : Value) (es : List Expr) (Q : PV → Mu → Prop) : PV → Mu → Prop := fun o μ₁ => ∃ first, Meth c μ₁ o name f first ∧ WEs c k sc ρ μ₁ es (kMc c k f first Q)
theorem WE_CallMv {oe : Expr} {name : Str} {apos pos : Pos} {es : List Expr} {Q : PV → Mu → Prop} (hn : notCall oe = true ∨ ∃ x p y q, oe = .Call (.Name x p) [y] [] q) (hp : (apos.endLine == pos.line) = true) (hes : es.all notStar = true) (hlen : es.length < 30)
    (h : WE c k sc ρ μ oe (fun o μ₁ => ∃ f first, Callee c f ∧ Meth c μ₁ o name f first ∧ WEs c k sc ρ μ₁ es (kMc c k f first Q))) : WE c k sc ρ μ (.Call (.Attribute oe name apos) es [] pos) Q := fun A env X fz s E rm S => by
  show wpAny _ A (do
    let ov ← attributeBase oe name env (eval oe env)
    standAt apos.atName
    methodCall oe name apos pos env ov (es.length + 0) (backTo pos (starEach es env)) (backToKw pos (keywordEach [] env))) _ _ _
  have hb : attributeBase oe name env (eval oe env) = eval oe env := by
    rcases hn with hn | ⟨x, p, y, q, rfl⟩
    · exact attributeBase_of hn _ _ _
    · rfl
  rw [hb]
  refine wpAny_bind (h.use S rm fun ov po μ' fz' s' h₁ ro l1 S' => wpAny_bind (wpAny_standAt ?_))
  obtain ⟨f, first, hcal, hm, h₁⟩ := h₁
  unfold methodCall
  rw [methodCallForm_plain hes hlen]
  refine wpAny_bind (wpAny_holding ?_)
  show wpAny _ A (getMethod ov name _) _ _ _
  refine hm A env sc ρ X fz' s' E ov _ _ ro S' fun vf nt raf => ?_
  have S' := S'.toks nt
  have hpos : methodCallPos true oe env apos pos = pure pos := by unfold methodCallPos; rw [hp]; rfl
  rw [hpos]
  refine wpAny_bind (wpAny_pure ?_)
  refine upE l1 (callWith_any hes hcal h₁ S' rm fun vs ps μ₂ fz₂ s₂ h₂ ra l2 S₂ => ?_)
  exact upE l2 (h₂ A env sc ρ X fz₂ s₂ E (vf ++ vs) rm ((raf.mono l2).append ra) S₂)

theorem WE_CallM {oe : Expr} {name : Str} {apos pos : Pos} {es : List Expr} {f : Value} {Q : PV → Mu → Prop} (hn : notCall oe = true ∨ ∃ x p y q, oe = .Call (.Name x p) [y] [] q) (hp : (apos.endLine == pos.line) = true) (hcal : Callee c f) (hes : es.all notStar = true) (hlen : es.length < 30)
    (h : WE c k sc ρ μ oe (kMe c k sc ρ name f es Q)) : WE c k sc ρ μ (.Call (.Attribute oe name apos) es [] pos) Q := WE_CallMv hn hp hes hlen (h.mono fun o μ₁ ⟨first, h1, h2⟩ => ⟨f, first, hcal, h1, h2⟩)

theorem meth_append {a : Addr} {l : List PV} (hm : μ a = some (.list l)) : Meth c μ (.ptr a) "append" (.builtin "list.append") [.ptr a] := fun A env sc ρ X fz s E v pl P r S K => by
  obtain rfl := r.inv
  obtain ⟨o, ho, ro, _⟩ := S.x.mu a _ hm
  obtain ⟨_, _, rfl, _⟩ := ro.inv
  exact getMethod_list_append ho rfl rfl (K _ s.toks (.cons (.ptr _) .nil))
theorem WO_append {a : Addr} {l : List PV} {p : PV} {Q : PV → Mu → Prop} (hm : μ a = some (.list l)) (hl : l.length ≤ 1000000) (h : Q .none (μ.set a (.list (l ++ [p])))) : WO c k (cl (.builtin "list.append")) [.ptr a, p] μ Q := fun A env sc ρ X fz s E vs rm ra S => by
  obtain ⟨v, w, rfl, r1, r2⟩ := ra.inv2; obtain rfl := r1.inv
  obtain ⟨o, ho, ro, _⟩ := S.x.mu a _ hm
  obtain ⟨ws, n, rfl, ra'⟩ := ro.inv
  refine wpAny_list_append_plain (hsz := by rw [List.size_toArray, ra'.length, sizeLine_eq]; exact Nat.le_trans hl (by decide)) ⟨n, ho⟩ fun h' hpl hs => ?_
  obtain ⟨n', hpl⟩ := hpl
  refine ⟨_, _, fz, h, .none, .refl _, S.putμ (s' := { s with heap := h' }) (o := lO (ws ++ [w]) n') hm rfl rfl (fun b o hb e => (hs.2 b hb).trans e) (by rw [hpl, List.push_toArray]) (.list (ra'.append (.cons r2 .nil)))⟩

structure Plain (c : Cx) (cls : Str) (attr : Str) : Prop where
  at_ : ∃ C, c.mg cls = some (.ref C) ∧ plainGet c.K C attr = true ∧ hasDictIn c.K C = true ∧ findIn c.K (.ref C) attr = some none
theorem getL_hit {es : List DictEntry} {h : Int} {x : Str} {t : Tok} {v : Value} : getL x (⟨h, .str x t, v⟩ :: es) = some (some v) := by
  unfold getL
  rw [List.find?_cons, show Value.isStr (.str x t) x = true from beq_self_eq_true x]
theorem getL_miss {es : List DictEntry} {h : Int} {x y : Str} {t : Tok} {v : Value} (hx : x ≠ y) (hr : es.any (·.refKey) = false) : getL x (⟨h, .str y t, v⟩ :: es) = getL x es := by
  unfold getL
  rw [List.find?_cons, show Value.isStr (.str y t) x = false from beq_false_of_ne (Ne.symm hx), List.any_cons, hr]
  rfl
theorem RF.get {es : List DictEntry} {fs : List (Str × PV)} (h : RF c fz es fs) (x : Str) : (∀ p, fs.lookup x = some p → ∃ v, getL x es = some (some v) ∧ R c fz v p) ∧ (fs.lookup x = none → getL x es = some none) :=
  (h.ind (P := fun es fs => es.any (·.refKey) = false ∧ (∀ p, fs.lookup x = some p → ∃ v, getL x es = some (some v) ∧ R c fz v p) ∧ (fs.lookup x = none → getL x es = some none)) ⟨rfl, fun p e => (nomatch e), fun _ => rfl⟩ fun {hh y t v p vs ps} a _ i => ⟨by rw [List.any_cons, i.1]; rfl,
    fun q e => lookup_case e (fun h1 h2 => ⟨v, h1 ▸ getL_hit, h2 ▸ a⟩) fun h1 h2 => (i.2.1 q h2).elim fun w r => ⟨w, (getL_miss h1 i.1).trans r.1, r.2⟩, fun e => by
      by_cases hx : x = y
      · exact ns e (lookup_hit hx)
      · exact (getL_miss hx i.1).trans (i.2.2 ((lookup_ne hx).symm.trans e))⟩).2
noncomputable def Fields (μ : Mu) : PV → Option (Str × List (Str × PV))
  | .inst k fs => some (k, fs)
  | .mi _ k d => match μ d with
    | some (.ns fs) => some (k, fs)
    | _ => none
  | _ => none
theorem Fields_mi {a d : Addr} {cls : Str} {fs : List (Str × PV)} (h : μ d = some (.ns fs)) : Fields μ (.mi a cls d) = some (cls, fs) := by
  delta Fields
  dsimp only
  rw [h]
theorem Fields.inv {o : PV} {cls : Str} {fs : List (Str × PV)} (hf : Fields μ o = some (cls, fs)) : o = .inst cls fs ∨ ∃ a d, o = .mi a cls d ∧ μ d = some (.ns fs) := by
  cases o with
  | inst k fs' => exact .inl ((Prod.mk.inj (Option.some.inj hf)).1 ▸ (Prod.mk.inj (Option.some.inj hf)).2 ▸ rfl)
  | mi a k d =>
    change (match μ d with | some (.ns fs) => some (k, fs) | _ => none) = some (cls, fs) at hf
    cases hm : μ d with
    | none => rw [hm] at hf; exact nomatch hf
    | some mo =>
      rw [hm] at hf
      cases mo with
      | ns fs' => exact .inr ⟨a, d, (Prod.mk.inj (Option.some.inj hf)).1 ▸ rfl, (Prod.mk.inj (Option.some.inj hf)).2 ▸ hm⟩
      | list => exact ns rfl hf
      | dict => exact ns rfl hf
      | exc => exact ns rfl hf
  | none => exact ns rfl hf
  | bool => exact ns rfl hf
  | int => exact ns rfl hf
  | str => exact ns rfl hf
  | bytes => exact ns rfl hf
  | raw => exact ns rfl hf
  | ptr => exact ns rfl hf
  | list => exact ns rfl hf
  | tuple => exact ns rfl hf
  | dict => exact ns rfl hf
  | rng => exact ns rfl hf
theorem inst_at {v : Value} {o : PV} {cls : Str} {fs : List (Str × PV)} (hf : Fields μ o = some (cls, fs)) (r : R c fz v o) (S : SimX c X fz μ s) :
    ∃ a C d es n, v = .ref a ∧ c.mg cls = some (.ref C) ∧ InstAt s.heap a (instObj C d) C (some (dictOf es n)) ∧ RF c fz es fs := by
  rcases Fields.inv hf with rfl | ⟨a, d, rfl, hm⟩
  · obtain ⟨a, C, d, es, n, rfl, h3, h1, h2, h4⟩ := r.inv
    exact ⟨_, _, _, _, _, rfl, h3, ⟨S.ef _ _ h1, rfl, rfl, S.ef _ _ h2⟩, h4⟩
  · obtain ⟨C, rfl, h1, h2⟩ := r.inv
    obtain ⟨o, ho, ro, _⟩ := S.mu d _ hm
    obtain ⟨es, n, rfl, rf⟩ := ro.inv
    exact ⟨_, _, _, es, n, rfl, h1, ⟨S.ef _ _ h2, rfl, rfl, ho⟩, rf⟩
noncomputable def handedP : PV → Bool
  | .raw _ => false
  | _ => true
theorem R.handed {v : Value} {p : PV} (r : R c fz v p) (h : handedP p = true) : handedIn v = true :=
  R.casesOn (motive_1 := fun v p _ => handedP p = true → handedIn v = true) r (fun _ => rfl) (fun _ _ => rfl) (fun _ _ _ => rfl) (fun _ _ _ => rfl) (fun _ _ _ => rfl) (fun _ h => nomatch h) (fun _ _ => rfl) (fun _ _ _ => rfl) (fun _ _ _ => rfl) (fun _ _ _ _ _ => rfl) (fun _ _ _ _ _ _ _ => rfl) (fun _ _ _ => rfl) (fun _ _ => rfl) h
noncomputable abbrev kAttr (c : Cx) (attr : Str) (Q : PV → Mu → Prop) : PV → Mu → Prop := fun o μ₁ => ∃ cls fs v, Fields μ₁ o = some (cls, fs) ∧ fs.lookup attr = some v ∧ handedP v = true ∧ Plain c cls attr ∧ Q v μ₁
theorem WE_Attr {oe : Expr} {attr : Str} {pos : Pos} {Q : PV → Mu → Prop} (ok : CxOk c) (hn : notCall oe = true)
    (h : WE c k sc ρ μ oe (kAttr c attr Q)) : WE c k sc ρ μ (.Attribute oe attr pos) Q := fun A env X fz s E rm S => by
  show wpAny _ A (do
    let o ← attributeBase oe attr env (eval oe env)
    standAt pos.atName
    let r ← holding [o] (getAttr o attr true)
    letTemporaryGo oe o r
    pure r) _ _ _
  rw [attributeBase_of hn]
  refine wpAny_bind (h.use S rm fun ov po μ' fz' s' h₁ ro l1 S' => wpAny_bind (wpAny_standAt (wpAny_bind (wpAny_holding ?_))))
  obtain ⟨cls, fs, v, hf, hv, hh, ⟨C, p1, p2, p3, p4⟩, hq⟩ := h₁
  obtain ⟨a, C', d, es, n, rfl, q1, I, rf⟩ := inst_at hf ro S'.x
  rw [p1] at q1; cases q1
  obtain ⟨w, hw, rw'⟩ := (rf.get attr).1 v hv
  refine get_value (ok.X.keeps S'.base) I (plainGet_of p2).1 (findObj_own p3 p4 rfl (by rw [lookIn_dict, hw])) (rw'.handed hh) ?_
  exact wpAny_bind (wpAny_letTemporaryGo (wpAny_pure ⟨v, μ', fz', hq, rw', l1, S'.toks _⟩))

noncomputable def MethOf (c : Cx) (cls name : Str) (f : Addr) : Prop :=
  ∃ C, c.mg cls = some (.ref C) ∧ plainGet c.K C name = true ∧ findIn c.K (.ref C) name = some (some (.ref f)) ∧ typeIn c.K (.ref f) = some (.type "function")
theorem meth_inst {o : PV} {cls name : Str} {f : Addr} {fs : List (Str × PV)} (ok : CxOk c) (hf : Fields μ o = some (cls, fs)) (hno : fs.lookup name = none) (hm : MethOf c cls name f) : Meth c μ o name (.ref f) [o] := fun A env sc ρ X fz s E v pl P r S K => by
  obtain ⟨C, p1, p2, p3, p4⟩ := hm
  obtain ⟨a, C', d, es, n, rfl, q1, I, rf⟩ := inst_at hf r S.x
  rw [p1] at q1; cases q1
  refine method_fn (ok.X.keeps S.base) I (plainGet_of p2).1 (plainGet_of p2).2 p3 p4 ?_ (K _ s.toks (.cons r .nil))
  show (lookIn name (dictOf es n)).map _ = _
  rw [lookIn_dict, (rf.get name).2 hno]; rfl

inductive Sub (μ : Mu) : PV → Prop
  | list (l : List PV) : Sub μ (.list l)
  | tuple (l : List PV) : Sub μ (.tuple l)
  | dict (l : List (List Int × PV)) : Sub μ (.dict l)
  | ptr {a : Addr} {l : List PV} : μ a = some (.list l) → Sub μ (.ptr a)
  | ptrd {a : Addr} {l : List (List Int × PV)} : μ a = some (.dict l) → Sub μ (.ptr a)
theorem subTail {value slice : Expr} {o i : Value} {T id : String} {P : Value → Shared → Prop} (hT : s.TypeIs o T)
    (hl : typeLookup (.type T) "__getitem__" = pure (some (.builtin id))) (h : wpAny c.M A (getItem o i) P E s) : wpAny c.M A (subscriptTail value slice o i) P E s := by
  unfold subscriptTail
  refine wpAny_bind ?_
  rw [getitemInPython_of_ne hT.not_modules]
  refine wpAny_bind (wpAny_specialOf hT hl ?_)
  have fin : wpAny c.M A (subscripted slice false o i) (fun r s₃ => wpAny c.M A (letTemporaryGo value o r >>= fun _ => pure r) P E s₃) E s := by
    have hh : wpAny c.M A (getItem o i) (fun r s₃ => wpAny c.M A (letTemporaryGo value o r >>= fun _ => pure r) P E s₃) E s :=
      wpAny_mono h (fun r s₃ h₃ => wpAny_bind (wpAny_letTemporaryGo (wpAny_pure h₃))) fun _ _ x => x
    cases slice with
    | Slice a b x p => cases x <;> exact wpAny_operating hh
    | _ => exact wpAny_operating hh
  first
    | exact wpAny_pure (wpAny_bind fin)
    | exact wpAny_bind (wpAny_pure (wpAny_bind fin))
    | exact wpAny_bind fin
noncomputable abbrev kSu2 (c : Cx) (k : Nat) (o : PV) (Q : PV → Mu → Prop) : PV → Mu → Prop := fun i μ₂ => Sub μ₂ o ∧ WO c k (t2 getItem) [o, i] μ₂ Q
noncomputable abbrev kSu1 (c : Cx) (k : Nat) (sc : SC) (ρ : Rho) (slice : Expr) (Q : PV → Mu → Prop) : PV → Mu → Prop := fun o μ₁ => WE c k sc ρ μ₁ slice (kSu2 c k o Q)
theorem WE_Sub {value slice : Expr} {pos : Pos} {Q : PV → Mu → Prop} (h : WE c k sc ρ μ value (kSu1 c k sc ρ slice Q)) : WE c k sc ρ μ (.Subscript value slice pos) Q := fun A env X fz s E rm S => by
  refine Subscript_ (h.use S rm fun ov po μ' fz' s' h₁ ro l1 S' => h₁.use S' rm fun iv pi μ₂ fz₂ s₂ h₂ ri l2 S₂ => ?_)
  obtain ⟨hs, h₂⟩ := h₂
  have ro' := ro.mono l2
  have main := h₂ A env sc ρ X fz₂ s₂ E [ov, iv] rm (.cons ro' (.cons ri .nil)) S₂
  refine upE (l1.trans l2) ?_
  cases hs with
  | list l => obtain ⟨_, _, _, rfl, ha, ra⟩ := ro'.inv; exact subTail (T := "list") ⟨_, S₂.x.ef _ _ ha, rfl⟩ slot_list_getitem.lookup main
  | tuple l => obtain ⟨_, _, _, rfl, ha, ra⟩ := ro'.inv; exact subTail (T := "tuple") ⟨_, S₂.x.ef _ _ ha, rfl⟩ slot_tuple_getitem.lookup main
  | dict l => obtain ⟨_, _, _, _, rfl, ha, _⟩ := ro'.inv; exact subTail (T := "dict") ⟨_, S₂.x.ef _ _ ha, rfl⟩ slot_dict_getitem.lookup main
  | ptr hm =>
    obtain rfl := ro'.inv
    obtain ⟨o, ho, rr, _⟩ := S₂.x.mu _ _ hm
    obtain ⟨_, _, rfl, _⟩ := rr.inv
    exact subTail (T := "list") ⟨_, ho, rfl⟩ slot_list_getitem.lookup main
  | ptrd hm =>
    obtain rfl := ro'.inv
    obtain ⟨o, ho, rr, _⟩ := S₂.x.mu _ _ hm
    obtain ⟨_, _, _, rfl, _⟩ := rr.inv
    exact subTail (T := "dict") ⟨_, ho, rfl⟩ slot_dict_getitem.lookup main
theorem WO_get_list {l : List PV} {i : Int} {v : PV} {Q : PV → Mu → Prop} (h0 : 0 ≤ i) (h1 : i < 2 ^ 63) (hv : l[i.toNat]? = some v) (h : Q v μ) : WO c k (t2 getItem) [.list l, .int i] μ Q := fun A env sc ρ X fz s E vs rm ra S => by
  obtain ⟨v, w, rfl, r1, r2⟩ := ra.inv2; (first | obtain rfl := r1.inv | obtain ⟨_, rfl⟩ := r1.inv | obtain ⟨_, _, _, rfl, _, _⟩ := r1.inv | obtain ⟨_, _, rfl, _⟩ := r1.inv | obtain ⟨_, rfl, _⟩ := r1.inv | obtain ⟨_, _, _, rfl, _, _, _, _, _⟩ := r1.inv | obtain ⟨_, _, _, _, rfl, _, _, _, _⟩ := r1.inv | obtain ⟨_, _, _, _, rfl, _, _, _, _, _⟩ := r1.inv | cases r1); (first | obtain rfl := r2.inv | obtain ⟨_, rfl⟩ := r2.inv | obtain ⟨_, _, _, rfl, _, _⟩ := r2.inv | obtain ⟨_, _, rfl, _⟩ := r2.inv | obtain ⟨_, rfl, _⟩ := r2.inv | obtain ⟨_, _, _, rfl, _, _, _, _, _⟩ := r2.inv | obtain ⟨_, _, _, _, rfl, _, _, _, _⟩ := r2.inv | obtain ⟨_, _, _, _, rfl, _, _, _, _, _⟩ := r2.inv | cases r2)
  rename_i a ws n ha ra' t
  obtain ⟨x, hx, rx⟩ := ra'.get hv
  exact wpAny_getItem_list ⟨_, S.x.ef _ _ ha, rfl, _, rfl⟩ h0 h1 (by simpa using hx) (S.pe rx h)
theorem WO_get_ptr {a : Addr} {l : List PV} {i : Int} {v : PV} {Q : PV → Mu → Prop} (hm : μ a = some (.list l)) (h0 : 0 ≤ i) (h1 : i < 2 ^ 63) (hv : l[i.toNat]? = some v) (h : Q v μ) : WO c k (t2 getItem) [.ptr a, .int i] μ Q := fun A env sc ρ X fz s E vs rm ra S => by
  obtain ⟨v, w, rfl, r1, r2⟩ := ra.inv2; obtain rfl := r1.inv; obtain ⟨_, rfl⟩ := r2.inv
  obtain ⟨o, ho, rr, _⟩ := S.x.mu _ _ hm
  obtain ⟨ws, n, rfl, ra'⟩ := rr.inv
  obtain ⟨x, hx, rx⟩ := ra'.get hv
  exact wpAny_getItem_list ⟨_, ho, rfl, _, rfl⟩ h0 h1 (by simpa using hx) (S.pe rx h)
theorem WO_get_tuple {l : List PV} {i : Int} {v : PV} {Q : PV → Mu → Prop} (h0 : 0 ≤ i) (h1 : i < 2 ^ 62) (hv : l[i.toNat]? = some v) (h : Q v μ) : WO c k (t2 getItem) [.tuple l, .int i] μ Q := fun A env sc ρ X fz s E vs rm ra S => by
  obtain ⟨v, w, rfl, r1, r2⟩ := ra.inv2; (first | obtain rfl := r1.inv | obtain ⟨_, rfl⟩ := r1.inv | obtain ⟨_, _, _, rfl, _, _⟩ := r1.inv | obtain ⟨_, _, rfl, _⟩ := r1.inv | obtain ⟨_, rfl, _⟩ := r1.inv | obtain ⟨_, _, _, rfl, _, _, _, _, _⟩ := r1.inv | obtain ⟨_, _, _, _, rfl, _, _, _, _⟩ := r1.inv | obtain ⟨_, _, _, _, rfl, _, _, _, _, _⟩ := r1.inv | cases r1); (first | obtain rfl := r2.inv | obtain ⟨_, rfl⟩ := r2.inv | obtain ⟨_, _, _, rfl, _, _⟩ := r2.inv | obtain ⟨_, _, rfl, _⟩ := r2.inv | obtain ⟨_, rfl, _⟩ := r2.inv | obtain ⟨_, _, _, rfl, _, _, _, _, _⟩ := r2.inv | obtain ⟨_, _, _, _, rfl, _, _, _, _⟩ := r2.inv | obtain ⟨_, _, _, _, rfl, _, _, _, _, _⟩ := r2.inv | cases r2)
  rename_i a ws n ha ra' t
  obtain ⟨x, hx, rx⟩ := ra'.get hv
  have hlt : i.toNat < ws.length := by
    rcases Nat.lt_or_ge i.toNat ws.length with h | h
    · exact h
    · rw [List.getElem?_eq_none h] at hx; cases hx
  refine getItem_tuple (items := ws.toArray) (j := i.toNat) ⟨_, S.x.ef _ _ ha, rfl, _, rfl⟩ (by lia) (by lia) ?_ (by simpa using hx) (S.pe rx h)
  unfold seqIndex?
  have e1 : ¬ i < 0 := by lia
  have e2 : i < (ws.length : Int) := by lia
  simp [e1, h0, e2]

noncomputable def setNone (a b d : Value) : Sem Value := do setItem a b d; pure .none
noncomputable abbrev kSt3 (ρ : Rho) (Q : Rho → Mu → Prop) : PV → Mu → Prop := fun _ μ₃ => Q ρ μ₃
noncomputable abbrev kSt2 (c : Cx) (k : Nat) (ρ : Rho) (o v : PV) (Q : Rho → Mu → Prop) : PV → Mu → Prop := fun i μ₂ => WO c k (t3 setNone) [o, i, v] μ₂ (kSt3 ρ Q)
noncomputable abbrev kSt1 (c : Cx) (k : Nat) (sc : SC) (ρ : Rho) (ie : Expr) (v : PV) (Q : Rho → Mu → Prop) : PV → Mu → Prop := fun o μ₁ => WE c k sc ρ μ₁ ie (kSt2 c k ρ o v Q)
theorem WA_Sub {oe ie : Expr} {pos : Pos} {v : PV} {Q : Rho → Mu → Prop}
    (h : WE c k sc ρ μ oe (kSt1 c k sc ρ ie v Q)) : WA c k sc ρ μ (.Subscript oe ie pos) v Q := fun A env X fz s E r rm rr S => by
  rw [assign_Subscript]
  refine wpAny_bind (wpAny_holding (h.use S rm fun ov po μ₁ fz₁ s₁ h₁ ro l1 S₁ => wpAny_bind (wpAny_holding (h₁.use S₁ rm fun iv pi μ₂ fz₂ s₂ h₂ ri l2 S₂ => wpAny_bind (wpAny_standAt (wpAny_bind (wpAny_holding ?_)))))))
  have main := h₂ A env sc ρ X fz₂ s₂ E [ov, iv, r] rm (.cons (ro.mono l2) (.cons ri (.cons (rr.mono (l1.trans l2)) .nil))) S₂
  have main' : wpAny c.M A (setItem ov iv r) (fun _ s₃ => PA c env sc X fz Q s₃) E s₂ := by
    intro Γ p hΓ
    have := main Γ p hΓ
    rw [show (t3 setNone [ov, iv, r] : Sem Value) = (setItem ov iv r >>= fun _ => pure Value.none) from rfl, Sem.wp_bind'] at this
    refine Sem.wp_mono _ _ _ (fun _ _ s₃ h₃ => ?_) (fun _ _ _ e => e) _ _ this
    rw [Sem.wp_pure'] at h₃
    obtain ⟨pv, μ₃, fz₃, hq, _, l3, S₃⟩ := h₃
    exact ⟨ρ, μ₃, fz₃, hq, (l1.trans l2).trans l3, S₃⟩
  exact wpAny_mono main' (fun _ s₃ h₃ => wpAny_release h₃) fun _ _ x => x
theorem WO_set_ptr {a : Addr} {l : List PV} {i : Int} {v : PV} {Q : PV → Mu → Prop} (hm : μ a = some (.list l)) (h0 : 0 ≤ i) (h1 : i.toNat < l.length) (hl : l.length ≤ 1000000) (h : Q .none (μ.set a (.list (l.set i.toNat v)))) :
    WO c k (t3 setNone) [.ptr a, .int i, v] μ Q := fun A env sc ρ X fz s E vs rm ra S => by
  obtain ⟨x, y, z, rfl, r1, r2, r3⟩ := ra.inv3; obtain rfl := r1.inv
  obtain ⟨t, rfl⟩ := r2.inv
  obtain ⟨o, ho, rr, _⟩ := S.x.mu _ _ hm
  obtain ⟨ws, n, rfl, ra'⟩ := rr.inv
  have hw : i.toNat < ws.length := by rw [ra'.length]; exact h1
  show wpAny _ A (setItem (.ref a) (.int i t) z >>= fun _ => pure Value.none) _ _ _
  refine wpAny_bind (ki_setAt (n := n) (items := ws.toArray) ho h0 (by have := ra'.length; lia) (by rw [List.size_toArray]; lia) (wpAny_pure ?_))
  have q := PySem.IsL.update ho (·.setIfInBounds i.toNat z)
  refine ⟨_, _, fz, h, .none, .refl _, S.putμ (s' := { s with heap := s.heap.update a (Obj.mapSeq (·.setIfInBounds i.toNat z)) }) (o := lO (ws.set i.toNat z) n) hm rfl rfl (fun b o hb e => ((Heap.SameBut.update ..).2 b hb).trans e) ?_ (.list (ra'.set r3))⟩
  rw [q]
  simp
end
section
variable {c : Cx} {k : Nat} {sc : SC} {ρ : Rho} {μ : Mu} {env : Env} {X fz fz₁ : Led} {s : Shared} {A : Around} {E : Value → Shared → Prop}

theorem Sim.frAt {a : Addr} {o : Obj} (S : Sim c env sc X fz ρ μ s) (ho : s.heap.get? a = some o) (ha : a ≠ env.locals) : ∃ m rest, Fr heap0 env.locals s.heap m ∧ News heap0 env.locals s.heap ((a, o) :: rest) ∧ (∀ p ∈ rest, p.1 ≠ a) ∧
    (∀ b o, b ≠ env.locals → b ≠ a → s.heap.get? b = some o → (b, o) ∈ rest) ∧ (∀ x v, env.kindOf x = some .local → ρ.lookup x = some v → ∃ r, m x = some r ∧ R c fz r v) :=
  S.e.ns.elim fun m p => (newsOf s.heap (fun i => i = env.locals ∨ i = a)).elim fun l q => ⟨m, l, ⟨p.1, (fun b o e => ns (heap0_none b) e), Nat.zero_le _⟩,
    fun z hz => (List.mem_cons.mp hz).elim (fun e => e ▸ ⟨ho, ha, heap0_none _⟩) fun hz => ⟨(q.1 z hz).1, fun e => (q.1 z hz).2 (.inl e), heap0_none _⟩, fun z hz e => (q.1 z hz).2 (.inr e), fun b o hb hb' e => q.2 b o (fun h => h.elim hb hb') e, p.2⟩
theorem Sim.backAt {s' : Shared} {a : Addr} {o' : Obj} {m₀ m₁ : MObj} {m : Str → Option Value} {rest : List (Addr × Obj)} (S : Sim c env sc X fz ρ μ s) (hall : ∀ b o, b ≠ env.locals → b ≠ a → s.heap.get? b = some o → (b, o) ∈ rest)
    (hm : ∀ x v, env.kindOf x = some .local → ρ.lookup x = some v → ∃ r, m x = some r ∧ R c fz r v) (F : Fr heap0 env.locals s'.heap m) (N : News heap0 env.locals s'.heap rest) (e : s'.heap.get? a = some o') (ha : μ a = some m₀) (r : RO c fz a o' m₁)
    (hg : s'.gens = s.gens) (hos : s'.os = s.os) : Sim c env sc X fz ρ (μ.set a m₁) s' :=
  have hk : ∀ b o, b ≠ env.locals → b ≠ a → s.heap.get? b = some o → s'.heap.get? b = some o := fun b o hb hb' e => (N _ (hall b o hb hb' e)).1
  have hL := nes S.e.free.2.2 ha
  have hcell : ∀ {x b}, x ∈ sc.own → env.cells.lookup x = some b → b ≠ a := fun hx e => (nes (S.e.ownAt hx e).2.2.2.2 ha).symm
  ⟨⟨hg.trans S.x.g, hos.trans S.x.os, S.x.base, fun b o z => hk b o (nes S.e.free.1 z) (nes (S.x.muX ha) z) (S.x.ex b o z), fun b o z => hk b o (nes S.e.free.2.1 z) (nes (S.x.muF ha) z) (S.x.ef b o z), fun b mo q => by
      by_cases hb : b = a
      · subst hb; exact ⟨o', e, Option.some.inj ((Mu.set_self ..).symm.trans q) ▸ r, S.x.muX ha, S.x.muF ha⟩
      · have q := (Mu.set_ne _ _ hb).symm.trans q
        exact (S.x.mu b mo q).elim fun o p => ⟨o, hk b o (nes S.e.free.2.2 q) hb p.1, p.2⟩, S.x.xf⟩,
    ⟨⟨m, F.ns, hm⟩, ⟨S.e.free.1, S.e.free.2.1, (Mu.set_ne _ _ hL.symm).trans S.e.free.2.2⟩,
      fun x v e q => (S.e.cells x v e q).elim fun b p => p.elim fun r p => ⟨b, r, p.1, p.2.1.elim fun o p1 => ⟨o, hk b o (S.e.cell_ne e p.1 S.e.free.1 fun y b hy hb => (S.e.ownAt hy hb).2.2.2.1) (S.e.cell_ne e p.1 (S.x.muX ha) fun y b hy hb => hcell hy hb) p1.1, p1.2⟩, p.2.2⟩, S.e.bor,
      fun x hx => (S.e.ownd x hx).elim fun b p => ⟨b, p.1, p.2.1.elim fun v p1 => p1.elim fun o p2 => ⟨v, o, hk b o p.2.2.2.2.1 (hcell hx p.1) p2.1, p2.2⟩, p.2.2.1, p.2.2.2.1, p.2.2.2.2.1, (Mu.set_ne _ _ (hcell hx p.1)).trans p.2.2.2.2.2⟩, S.e.inj, S.e.kind⟩, S.ok⟩

noncomputable def SetA (c : Cx) (cls attr : Str) : Prop := ∃ C, c.mg cls = some (.ref C) ∧ findIn c.K (.ref C) "__setattr__" = some (some (.builtin "object.__setattr__")) ∧ plainOver c.K C = true ∧ takerIn c.K C attr = some none ∧ hasDictIn c.K C = true
theorem putL_new {name : Str} {h : Int} {key v : Value} : ∀ {es : List DictEntry}, getL name es = some none → putL name h key v es = es ++ [⟨h, key, v⟩] := by
  intro es e
  have hf : es.find? (fun x => x.key.isStr name) = none := by
    unfold getL at e
    cases q : es.find? (fun x => x.key.isStr name) with
    | none => rfl
    | some z => rw [q] at e; cases e
  clear e
  induction es with
  | nil => rfl
  | cons x es ih =>
    rw [List.find?_cons] at hf
    cases hx : x.key.isStr name with
    | true => rw [hx] at hf; cases hf
    | false =>
      rw [hx] at hf
      unfold putL
      rw [hx]
      simp only [Bool.false_eq_true, if_false]
      rw [ih hf]; rfl
theorem RF.append {es es' : List DictEntry} {fs fs' : List (Str × PV)} (h : RF c fz es fs) (h' : RF c fz es' fs') : RF c fz (es ++ es') (fs ++ fs') := h.ind (P := fun es fs => RF c fz (es ++ es') (fs ++ fs')) h' fun a _ i => .cons a i
theorem RF.length {es : List DictEntry} {fs : List (Str × PV)} (h : RF c fz es fs) : es.length = fs.length := h.ind (P := fun es fs => es.length = fs.length) rfl fun _ _ i => congrArg Nat.succ i
inductive KaS (c : Cx) (ρ : Rho) (attr : Str) (v : PV) (Q : Rho → Mu → Prop) (o : PV) (μ₁ : Mu) : Prop
  | mk (a : Addr) (cls : Str) (d : Addr) (fs : List (Str × PV)) : o = .mi a cls d → μ₁ d = some (.ns fs) → SetA c cls attr → fs.length ≤ 100 → fs.lookup attr = none → Q ρ (μ₁.set d (.ns (fs ++ [(attr, v)]))) → KaS c ρ attr v Q o μ₁
inductive KfZ (Q : PV → Mu → Prop) (r : PV) (μ' : Mu) : Prop
  | mk (a : Addr) (cls : Str) (d : Addr) (fs : List (Str × PV)) : r = .mi a cls d → μ' d = some (.ns fs) → Q (.inst cls fs) (μ'.del d) → KfZ Q r μ'
theorem WA_Attr {oe : Expr} {attr : Str} {pos : Pos} {v : PV} {Q : Rho → Mu → Prop} (ok : CxOk c)
    (h : WE c k sc ρ μ oe (KaS c ρ attr v Q)) : WA c k sc ρ μ (.Attribute oe attr pos) v Q := fun A env X fz s E r rm rr S => by
  show wpAny _ A (do
    let ov ← holding [r] (eval oe env)
    standAt pos.atName
    holding [r, ov] (setAttr ov attr r)
    release [r, ov] []) _ _ _
  refine wpAny_bind (wpAny_holding (h.use S rm fun ov po μ₁ fz₁ s₁ h₁ ro l1 S₁ => wpAny_bind (wpAny_standAt (wpAny_bind (wpAny_holding ?_)))))
  obtain ⟨a, cls, d, fs, rfl, hd, ⟨C, p1, p2, p3, p4, p5⟩, hlen, hno, hq⟩ := h₁
  obtain ⟨od, hod, rod, _⟩ := S₁.x.mu d _ hd
  obtain ⟨_, _, rfl, rf⟩ := rod.inv
  rename_i es n
  obtain ⟨rfl, hm1, hm2⟩ : ov = .ref a ∧ c.mg cls = some (.ref C) ∧ fz₁ a = some (instObj C d) := by
    cases ro with | mi h1 h2 => rw [p1] at h1; cases h1; exact ⟨rfl, p1, h2⟩
  have I : InstAt s₁.heap a (instObj C d) C (some (dictOf es n)) := ⟨S₁.x.ef _ _ hm2, rfl, rfl, hod⟩
  have hdL : d ≠ env.locals := by rintro rfl; rw [S₁.e.free.2.2] at hd; cases hd
  have S₂ := S₁.toks (s₁.toks + 1)
  obtain ⟨m, rest, F, N, hne, hall, hm⟩ := S₂.frAt (a := d) hod hdL
  have hg := (rf.get attr).2 hno
  refine set_plain (ok.X.keeps S₁.base) I p2 ?_
  refine osa_dict (s := { s₁ with toks := s₁.toks + 1 }) (pre := []) (post := rest) (es := es ++ [⟨PyData.keyHash c.w.params attr, .str attr (s₁.toks + 1), r⟩]) (n := putN attr es n) F N (ok.X.keeps S₂.base) I rfl p3 p4 p5 (by rw [lookIn_dict, hg]; rfl) (fun _ h => nomatch h) hne
    (by rw [putName_dict, putL_new hg]) rfl (by rw [List.length_append, rf.length]; show fs.length + 1 ≤ 1000; lia) fun h' F' N' => ?_
  have hno' := (N' _ List.mem_cons_self).1
  have S₃ := S₂.backAt (s' := { s₁ with heap := h', toks := s₁.toks + 1 + 1 }) hall hm F' (fun p hp => N' p (List.mem_cons_of_mem _ hp)) hno' hd (.ns (rf.append (.cons (rr.mono l1) .nil))) rfl rfl
  exact wpAny_release ⟨ρ, _, fz₁, hq, l1, S₃⟩

theorem Room.under {C : Addr} {rest : List Value} {kw : List (Str × Value)} (h : Room A (k + 1)) : Room (A.under (.builtin "type.__call__" ⟨.ref C :: rest, kw⟩)) k := by
  have hw : Code.weight (.builtin "type.__call__" ⟨.ref C :: rest, kw⟩) = 1 := by rfl
  have hu : Code.cUnits (.builtin "type.__call__" ⟨.ref C :: rest, kw⟩) = 1 := by rfl
  obtain ⟨h1, h2, h3⟩ := h
  refine ⟨h1, ?_, ?_⟩
  · show A.depth + Code.weight _ + k ≤ 900; rw [hw]; lia
  · show A.units + Code.cUnits _ + 20 * k ≤ 9000; rw [hu]; lia
theorem SimX.newInst {C : Addr} (S : SimX c X fz μ s) :
    SimX c X (fz.add (s.heap.objs.size + 1) (instObj C s.heap.objs.size)) (μ.set s.heap.objs.size (.ns [])) { s with heap := (s.heap.push emptyDict).push (instObj C s.heap.objs.size) } := by
  have S₁ : SimX c X fz (μ.set s.heap.objs.size (.ns [])) { s with heap := s.heap.push emptyDict } :=
    S.setμ (o := dictOf [] 0) rfl rfl (fun b o' _ e => Heap.get?_push_of_some _ e) (Heap.get?_push_size _ rfl) (.ns .nil) (Led.fresh S.ex (Nat.le_refl _)) (Led.fresh S.ef (Nat.le_refl _))
  have := S₁.pushF (instObj C s.heap.objs.size) s.toks rfl
  rwa [show ({ s with heap := s.heap.push emptyDict } : Shared).heap.objs.size = s.heap.objs.size + 1 from Heap.size_push ..] at this
theorem WC_new {cls : Str} {C fI : Addr} {ps : List PV} {Q : PV → Mu → Prop} (ok : CxOk c) (hC : c.mg cls = some (.ref C)) (hm : makesIn c.K C = true) (hi : findIn c.K (.ref C) "__init__" = some (some (.ref fI))) (hf : typeIn c.K (.ref fI) = some (.type "function"))
    (h : ∀ a d, μ d = none → WC c k (.ref fI) (.mi a cls d :: ps) (μ.set d (.ns [])) (fun r μ' => r = .none ∧ Q (.mi a cls d) μ')) : WC c (k + 1) (.ref C) ps μ Q := fun A X fz s vs RR rm ra S K => by
  obtain ⟨hh, g, d, t, os⟩ := s
  have XK := ok.X.keeps S.up
  have S₁ := S.newInst (C := C)
  have hfn : fz (hh.objs.size + 1) = none := Led.fresh S.ef (by show hh.objs.size ≤ hh.objs.size + 1; lia)
  refine make_core (makes_of XK hm) (looks_findIn XK hi) (fun self => bind_fn XK self hf) (.inl rfl) ?_
  refine h (hh.objs.size + 1) hh.objs.size (Mu.fresh S (Nat.le_refl _)) _ X _ _ (.ref (hh.objs.size + 1) :: vs) _ rm.under (.cons (.mi hC (Led.add_self ..)) (ra.mono (Led.le_add hfn))) S₁ fun v s' hP => ?_
  obtain ⟨pv, μ', fz', ⟨rfl, hq⟩, rv, le, S'⟩ := hP
  (first | obtain rfl := rv.inv | obtain ⟨_, rfl⟩ := rv.inv | obtain ⟨_, _, _, rfl, _, _⟩ := rv.inv | obtain ⟨_, _, rfl, _⟩ := rv.inv | obtain ⟨_, rfl, _⟩ := rv.inv | obtain ⟨_, _, _, rfl, _, _, _, _, _⟩ := rv.inv | obtain ⟨_, _, _, _, rfl, _, _, _, _⟩ := rv.inv | obtain ⟨_, _, _, _, rfl, _, _, _, _, _⟩ := rv.inv | cases rv)
  exact ⟨rfl, K _ _ ⟨_, μ', fz', hq, .mi hC (le _ _ (Led.add_self ..)), (Led.le_add hfn).trans le, S'⟩⟩
theorem WC_new0 {cls : Str} {C : Addr} {Q : PV → Mu → Prop} (ok : CxOk c) (hC : c.mg cls = some (.ref C)) (hm : makesIn c.K C = true) (hi : findIn c.K (.ref C) "__init__" = some (some (.builtin "object.__init__")))
    (h : Q (.inst cls []) μ) : WC c (k + 1) (.ref C) [] μ Q := fun A X fz s vs RR rm ra S K => by
  cases ra
  obtain ⟨hh, g, d, t, os⟩ := s
  have XK := ok.X.keeps S.up
  have S₀ : SimX c X (fz.add hh.objs.size emptyDict) μ ⟨hh.push emptyDict, g, d, t, os⟩ := S.pushF emptyDict t rfl
  have S₁ : SimX c X ((fz.add hh.objs.size emptyDict).add (hh.objs.size + 1) (instObj C hh.objs.size)) μ ⟨(hh.push emptyDict).push (instObj C hh.objs.size), g, d, t, os⟩ := by
    have := S₀.pushF (instObj C hh.objs.size) t rfl
    rwa [show (⟨hh.push emptyDict, g, d, t, os⟩ : Shared).heap.objs.size = hh.objs.size + 1 from Heap.size_push ..] at this
  have hf0 : fz hh.objs.size = none := Led.fresh S.ef (Nat.le_refl _)
  have hf1 : (fz.add hh.objs.size emptyDict) (hh.objs.size + 1) = none := Led.fresh S₀.ef (by show (hh.push emptyDict).objs.size ≤ _; rw [Heap.size_push]; exact Nat.le_refl _)
  have Y := makes_of (M := c.M) XK hm
  refine make_core Y (looks_findIn XK hi) (fun self => Looks.of_pure (oi_bind self)) (.inr ⟨rfl, rfl⟩) ?_
  have hx : ((hh.push emptyDict).push (instObj C hh.objs.size)).get? (hh.objs.size + 1) = some (instObj C hh.objs.size) := S₁.ef _ _ (Led.add_self ..)
  have t1 : Looks c.M ((hh.push emptyDict).push (instObj C hh.objs.size)) (typeOf (.ref (hh.objs.size + 1))) (.ref C) := (Looks.ld hx).andThen .now
  have t2 : Looks c.M ((hh.push emptyDict).push (instObj C hh.objs.size)) (isInstance (.ref (hh.objs.size + 1)) (.type "object")) true := t1.andThen (Y.top.keeps fun b o e => Heap.get?_push_of_some _ (Heap.get?_push_of_some _ e))
  refine codeAny_call_builtin oi_plain entry_oi (@check_slot c.M _ _ _ "object.__init__" "object" "__init__" (.ref (hh.objs.size + 1)) [] [] _ oi_kind oi_split t2 (oi_args (.ref (hh.objs.size + 1))) ?_)
  rw [oi_run]
  refine wpAny_pure (And.intro rfl (K _ _ ⟨_, μ, _, h, .inst (es := []) (n := 0) hC (Led.add_self ..) ?_ .nil, (Led.le_add hf0).trans (Led.le_add hf1), S₁⟩))
  rw [Led.add_ne _ _ (Nat.ne_of_lt (Nat.lt_succ_self _)), Led.add_self]

theorem WC_frz {f : Value} {ps : List PV} {Q : PV → Mu → Prop} (h : WC c k f ps μ (KfZ Q)) : WC c k f ps μ Q := fun A X fz s vs RR rm ra S K =>
  h A X fz s vs RR rm ra S fun v s' hP => by
    obtain ⟨pv, μ', fz', ⟨a, cls, d, fs, rfl, hd, hq⟩, rv, le, S'⟩ := hP
    obtain ⟨_, rfl, hC, ha⟩ := rv.inv
    obtain ⟨o, ho, ro, z1, z2⟩ := S'.mu d _ hd
    obtain ⟨_, _, rfl, rf⟩ := ro.inv
    have hf := S'.freeze hd ho
    refine K _ _ ⟨_, _, _, hq, ?_, le.trans (Led.le_add z2), hf⟩
    exact .inst hC (Led.le_add z2 _ _ ha) (Led.add_self ..) (rf.mono (Led.le_add z2))
end
mutual
noncomputable def pdP : PV → PyData
  | .bool b => .bool b
  | .int i => .int i
  | .tuple ds => .tuple (pdPs ds)
  | .list ds => .list (pdPs ds)
  | _ => .none
noncomputable def pdPs : List PV → List PyData
  | [] => []
  | d :: ds => pdP d :: pdPs ds
end
noncomputable def pdOk : Nat → PV → Bool
  | _, .none => true
  | _, .int _ => true
  | _, .bool _ => true
  | n + 1, .tuple ds => ds.all (pdOk n)
  | n + 1, .list ds => ds.all (pdOk n)
  | _, _ => false

section
variable {c : Cx} {k : Nat} {sc : SC} {ρ : Rho} {μ : Mu} {env : Env} {X fz fz₁ : Led} {s : Shared} {A : Around} {E : Value → Shared → Prop}
theorem pdOk_all {n : Nat} {ds : List PV} (h : ds.all (pdOk n) = true) : ∀ d ∈ ds, pdOk n d = true := List.all_eq_true.mp h
theorem readsAll {h : Heap} {n : Nat} (H : ∀ {v : Value} {d : PV}, R c fz v d → pdOk n d = true → ∃ as, Reads h v (pdP d) as) {vs : List Value} {ds : List PV} (r : RA c fz vs ds) (hk : ∀ d ∈ ds, pdOk n d = true) : ∃ as, ReadsAll h vs (pdPs ds) as :=
  r.ind (P := fun vs ds => (∀ d ∈ ds, pdOk n d = true) → ∃ as, ReadsAll h vs (pdPs ds) as) (fun _ => ⟨_, ReadsAll.nil⟩) (fun a _ i hk => (H a (hk _ (.head _))).elim fun as q => (i fun d hm => hk d (.tail _ hm)).elim fun bs p => ⟨_, ReadsAll.cons q p⟩) hk
theorem R.reads {h : Heap} (H : ∀ b o, fz b = some o → h.get? b = some o) (n : Nat) : ∀ {v : Value} {d : PV}, R c fz v d → pdOk n d = true → ∃ as, Reads h v (pdP d) as := by
  induction n with
  | zero =>
    intro v d r hk
    cases d with
    | none => obtain rfl := r.inv; exact ⟨_, Reads.none⟩
    | bool b => obtain rfl := r.inv; exact ⟨_, Reads.bool b⟩
    | int i => obtain ⟨t, rfl⟩ := r.inv; exact ⟨_, Reads.int i t⟩
    | _ => cases hk
  | succ n ih =>
    intro v d r hk
    cases d with
    | none => obtain rfl := r.inv; exact ⟨_, Reads.none⟩
    | bool b => obtain rfl := r.inv; exact ⟨_, Reads.bool b⟩
    | int i => obtain ⟨t, rfl⟩ := r.inv; exact ⟨_, Reads.int i t⟩
    | tuple l =>
      obtain ⟨a, vs, m, rfl, hm, ra⟩ := r.inv
      obtain ⟨as, q⟩ := readsAll ih ra (pdOk_all hk)
      exact ⟨as, reads_tuple_at (H _ _ hm) rfl rfl q⟩
    | list l =>
      obtain ⟨a, vs, m, rfl, hm, ra⟩ := r.inv
      obtain ⟨as, q⟩ := readsAll ih ra (pdOk_all hk)
      exact ⟨_, reads_list_at (H _ _ hm) rfl rfl q⟩
    | _ => cases hk
theorem pd_lays {n : Nat} (ih : ∀ d, pdOk n d = true → (pdP d).canLay0 = true ∧ (pdP d).depth ≤ n) (ds : List PV) : (∀ d ∈ ds, pdOk n d = true) → PyData.canLayAll0 (pdPs ds) = true ∧ PyData.depthAll (pdPs ds) ≤ n := by
  induction ds with
  | nil => intro _; exact ⟨rfl, Nat.zero_le _⟩
  | cons d ds hi =>
    intro h
    have h1 := ih d (h d (.head _))
    have h2 := hi fun e he => h e (.tail _ he)
    refine ⟨?_, Nat.max_le.mpr ⟨h1.2, h2.2⟩⟩
    show (PyData.canLay0 (pdP d) && PyData.canLayAll0 (pdPs ds)) = true
    rw [h1.1, h2.1]; rfl
theorem pd_lay (n : Nat) : ∀ (d : PV), pdOk n d = true → (pdP d).canLay0 = true ∧ (pdP d).depth ≤ n := by
  induction n with
  | zero =>
    intro d h
    cases d with
    | none => exact ⟨rfl, Nat.zero_le _⟩
    | bool => exact ⟨rfl, Nat.zero_le _⟩
    | int => exact ⟨rfl, Nat.zero_le _⟩
    | _ => cases h
  | succ n ih =>
    intro d h
    cases d with
    | none => exact ⟨rfl, Nat.zero_le _⟩
    | bool => exact ⟨rfl, Nat.zero_le _⟩
    | int => exact ⟨rfl, Nat.zero_le _⟩
    | tuple ds =>
      have q := pd_lays ih ds (pdOk_all h)
      refine ⟨q.1, ?_⟩
      show PyData.depthAll (pdPs ds) + 1 ≤ _
      exact Nat.succ_le_succ q.2
    | list ds =>
      have q := pd_lays ih ds (pdOk_all h)
      refine ⟨q.1, ?_⟩
      show PyData.depthAll (pdPs ds) + 1 ≤ _
      exact Nat.succ_le_succ q.2
    | _ => cases h
theorem pd_shaped {p : PV} (h : pdOk 8 p = true) : SeqAt.shaped (pdP p) = true := by
  obtain ⟨h1, h2⟩ := pd_lay 8 p h
  unfold SeqAt.shaped
  rw [h1]
  exact decide_eq_true (Nat.le_trans h2 (by decide))
theorem Room.u64 {A : Around} {k : Nat} (h : Room A k) : A.units + 64 < cLine := by have := h.2.2; unfold cLine; lia
theorem WO_same_eq {p : PV} {Q : PV → Mu → Prop} (hp : pdOk 8 p = true) (h : Q (.bool true) μ) : WO c k (t2 (compareOp .Eq)) [p, p] μ Q := fun A env sc ρ X fz s E vs rm ra S => by
  obtain ⟨v, w, rfl, r1, r2⟩ := ra.inv2
  obtain ⟨as, q1⟩ := R.reads S.x.ef 8 r1 hp
  obtain ⟨bs, q2⟩ := R.reads S.x.ef 8 r2 hp
  refine eq_dataH q1 q2 (pd_shaped hp) (pd_shaped hp) rm.u64 ?_
  rw [SeqAt.eqv_refl _ (pd_lay 8 p hp).1]
  exact S.pe (.bool _) h
theorem WO_same_ne {p : PV} {Q : PV → Mu → Prop} (hp : pdOk 8 p = true) (h : Q (.bool false) μ) : WO c k (t2 (compareOp .NotEq)) [p, p] μ Q := fun A env sc ρ X fz s E vs rm ra S => by
  obtain ⟨v, w, rfl, r1, r2⟩ := ra.inv2
  obtain ⟨as, q1⟩ := R.reads S.x.ef 8 r1 hp
  obtain ⟨bs, q2⟩ := R.reads S.x.ef 8 r2 hp
  refine ne_dataH q1 q2 (pd_shaped hp) (pd_shaped hp) rm.u64 ?_
  rw [SeqAt.eqv_refl _ (pd_lay 8 p hp).1]
  exact S.pe (.bool _) h
theorem WO_is_none {p : PV} (b : Bool) {Q : PV → Mu → Prop} (hb : ∀ fz v, R c fz v p → (v == Value.none) = b) (h : Q (.bool b) μ) : WO c k (t2 (compareOp .Is)) [p, .none] μ Q := fun A env sc ρ X fz s E vs rm ra S => by
  obtain ⟨v, w, rfl, r1, r2⟩ := ra.inv2; (first | obtain rfl := r2.inv | obtain ⟨_, rfl⟩ := r2.inv | obtain ⟨_, _, _, rfl, _, _⟩ := r2.inv | obtain ⟨_, _, rfl, _⟩ := r2.inv | obtain ⟨_, rfl, _⟩ := r2.inv | obtain ⟨_, _, _, rfl, _, _, _, _, _⟩ := r2.inv | obtain ⟨_, _, _, _, rfl, _, _, _, _⟩ := r2.inv | obtain ⟨_, _, _, _, rfl, _, _, _, _, _⟩ := r2.inv | cases r2)
  exact is_none_gen (by rw [hb fz v r1]; exact S.pe (.bool _) h)
theorem WO_add_list {l m : List PV} {Q : PV → Mu → Prop} (hl : l.length + m.length ≤ 1000000) (h : Q (.list (l ++ m)) μ) : WO c k (t2 (binaryOp .Add)) [.list l, .list m] μ Q := fun A env sc ρ X fz s E vs rm ra S => by
  obtain ⟨v, w, rfl, r1, r2⟩ := ra.inv2; (first | obtain rfl := r1.inv | obtain ⟨_, rfl⟩ := r1.inv | obtain ⟨_, _, _, rfl, _, _⟩ := r1.inv | obtain ⟨_, _, rfl, _⟩ := r1.inv | obtain ⟨_, rfl, _⟩ := r1.inv | obtain ⟨_, _, _, rfl, _, _, _, _, _⟩ := r1.inv | obtain ⟨_, _, _, _, rfl, _, _, _, _⟩ := r1.inv | obtain ⟨_, _, _, _, rfl, _, _, _, _, _⟩ := r1.inv | cases r1); (first | obtain rfl := r2.inv | obtain ⟨_, rfl⟩ := r2.inv | obtain ⟨_, _, _, rfl, _, _⟩ := r2.inv | obtain ⟨_, _, rfl, _⟩ := r2.inv | obtain ⟨_, rfl, _⟩ := r2.inv | obtain ⟨_, _, _, rfl, _, _, _, _, _⟩ := r2.inv | obtain ⟨_, _, _, _, rfl, _, _, _, _⟩ := r2.inv | obtain ⟨_, _, _, _, rfl, _, _, _, _, _⟩ := r2.inv | cases r2)
  rename_i a ws n ha ra1 b us n' hb ra2
  obtain ⟨m', news, F, N, hall, hm⟩ := S.fr
  refine add_lists F N ⟨_, S.x.ef _ _ ha, rfl, _, rfl⟩ ⟨_, S.x.ef _ _ hb, rfl, _, rfl⟩ (fun h' F' N' => ?_) (by rw [ra1.length, ra2.length, sizeLine_eq]; lia)
  have hD := (N' _ (.head _)).1
  have S' : Sim c env sc X fz ρ μ { s with heap := h' } := S.back (s' := { s with heap := h' }) hall hm F' (fun p hp => N' p (List.mem_cons_of_mem _ hp)) rfl rfl
  have hn := Led.fresh S.x.ef (Nat.le_refl s.heap.objs.size)
  have S₂ := S'.addF (a := s.heap.objs.size) (o := lO (ws ++ us) 0) hD (Led.fresh S.x.ex (Nat.le_refl _)) hn (Mu.fresh S.x (Nat.le_refl _)) (Nat.ne_of_gt S.e.lt_loc) fun x hx e => Nat.lt_irrefl _ (S.e.lt_cells hx e)
  exact ⟨_, μ, _, h, .list (Led.add_self ..) ((ra1.append ra2).mono (Led.le_add hn)), Led.le_add hn, S₂⟩
theorem RA.consts {i : Int} {n : Nat} {ws : List Value} (ra1 : RA c fz ws (List.replicate n (.int i))) : ∃ ts : List (Int × Tok), ws = ts.map (fun x => Value.int x.1 x.2) ∧ ts.length = n ∧ ∀ x ∈ ts, x.1 = i :=
  (ra1.ind (P := fun ws ps => (∀ p ∈ ps, p = .int i) → ∃ ts : List (Int × Tok), ws = ts.map (fun x => Value.int x.1 x.2) ∧ ts.length = ps.length ∧ ∀ x ∈ ts, x.1 = i) (fun _ => ⟨[], rfl, rfl, fun _ h => nomatch h⟩)
    (fun a _ ih hp => (hp _ (.head _) ▸ a : R c fz _ (.int i)).inv.elim fun t e => (ih fun p h => hp p (.tail _ h)).elim fun ts q => ⟨(i, t) :: ts, by rw [e, q.1]; rfl, congrArg Nat.succ q.2.1, fun x hx => (List.mem_cons.mp hx).elim (fun e => e ▸ rfl) (q.2.2 x)⟩)
    fun p h => List.eq_of_mem_replicate h).imp fun ts q => ⟨q.1, q.2.1.trans List.length_replicate, q.2.2⟩
theorem WO_max_const {n : Nat} {i : Int} {Q : PV → Mu → Prop} (hn : 0 < n) (h : Q (.int i) μ) : WO c k (cl (.builtin "max")) [.list (List.replicate n (.int i))] μ Q := fun A env sc ρ X fz s E vs rm ra S => by
  obtain ⟨v, rfl, r1⟩ := ra.inv1; (first | obtain rfl := r1.inv | obtain ⟨_, rfl⟩ := r1.inv | obtain ⟨_, _, _, rfl, _, _⟩ := r1.inv | obtain ⟨_, _, rfl, _⟩ := r1.inv | obtain ⟨_, rfl, _⟩ := r1.inv | obtain ⟨_, _, _, rfl, _, _, _, _, _⟩ := r1.inv | obtain ⟨_, _, _, _, rfl, _, _, _, _⟩ := r1.inv | obtain ⟨_, _, _, _, rfl, _, _, _, _, _⟩ := r1.inv | cases r1)
  rename_i a ws m ha ra1
  obtain ⟨ts, hts⟩ := RA.consts ra1
  obtain ⟨h1, h2, h3⟩ := hts
  have hl : s.heap.IsList a (intItems ts.toArray) := ⟨_, S.x.ef _ _ ha, rfl, m, by rw [h1]; unfold intItems; simp⟩
  refine max_intList rm.1 hl (by simp [h2]; lia) fun v h' tk hv hk => ?_
  have hi : ∃ t, v = .int i t := by
    unfold intItems at hv
    rw [Array.getElem?_map] at hv
    obtain ⟨x, hx, rfl⟩ := Option.map_eq_some_iff.mp hv
    have : x ∈ ts := by have := Array.mem_of_getElem? hx; simpa using this
    exact ⟨x.2, by rw [h3 x this]⟩
  obtain ⟨t, rfl⟩ := hi
  exact (S.keep (s' := { s with heap := h', toks := tk }) rfl rfl hk).pe (.int _ _) h

theorem newSlice {l u st : Value} {P : Value → Shared → Prop} (h : P (.ref s.heap.objs.size) { s with heap := s.heap.push { cls := .type "slice", data := .fields #[l, u, st] } }) : wpAny c.M A (newFields "slice" [l, u, st]) P E s := by
  refine wpAny_newObj_type ?_ ?_
  · exact h
  · show ([l, u, st].toArray).size ≤ sizeLine + 2; rw [sizeLine_eq]; simp
theorem WE_Upto {value ue : Expr} {p pos : Pos} {Q : PV → Mu → Prop} (h : WE c k sc ρ μ value (fun o μ₁ => WE c k sc ρ μ₁ ue (fun u μ₂ => ∃ l n, o = .list l ∧ u = .int n ∧ 0 ≤ n ∧ l.length ≤ 1000000 ∧ Q (.list (l.take n.toNat)) μ₂))) :
    WE c k sc ρ μ (.Subscript value (.Slice none (some ue) none p) pos) Q := fun A env X fz s E rm S => by
  refine Subscript_ (h.use S rm fun ov po μ₁ fz₁ s₁ h₁ ro l1 S₁ => ?_)
  rw [arm_eval_Slice]
  refine wpAny_bind (wpAny_pure (wpAny_bind (wpAny_holding ?_)))
  refine h₁.use S₁ rm fun uv pu μ₂ fz₂ s₂ h₂ ru l2 S₂ => ?_
  refine wpAny_bind (wpAny_holding (wpAny_pure ?_))
  obtain ⟨l, n, rfl, rfl, h0, hl, hq⟩ := h₂
  (first | obtain rfl := ru.inv | obtain ⟨_, rfl⟩ := ru.inv | obtain ⟨_, _, _, rfl, _, _⟩ := ru.inv | obtain ⟨_, _, rfl, _⟩ := ru.inv | obtain ⟨_, rfl, _⟩ := ru.inv | obtain ⟨_, _, _, rfl, _, _, _, _, _⟩ := ru.inv | obtain ⟨_, _, _, _, rfl, _, _, _, _⟩ := ru.inv | obtain ⟨_, _, _, _, rfl, _, _, _, _, _⟩ := ru.inv | cases ru); (first | obtain rfl := ro.inv | obtain ⟨_, rfl⟩ := ro.inv | obtain ⟨_, _, _, rfl, _, _⟩ := ro.inv | obtain ⟨_, _, rfl, _⟩ := ro.inv | obtain ⟨_, rfl, _⟩ := ro.inv | obtain ⟨_, _, _, rfl, _, _, _, _, _⟩ := ro.inv | obtain ⟨_, _, _, _, rfl, _, _, _, _⟩ := ro.inv | obtain ⟨_, _, _, _, rfl, _, _, _, _, _⟩ := ro.inv | cases ro)
  rename_i t a ws m ha ra
  have ra' := ra.mono l2
  have S₃ := S₂.push { cls := .type "slice", data := .fields #[.none, .int n t, .none] } s₂.toks
  refine newSlice ?_
  refine upE (l1.trans l2) (subTail (T := "list") ⟨_, S₃.x.ef _ _ (l2 _ _ ha), rfl⟩ slot_list_getitem.lookup ?_)
  refine wpAny_getItem_list_slice (items := ws.toArray) (lo := none) (hi := some n) (st := none) ⟨_, S₃.x.ef _ _ (l2 _ _ ha), rfl, _, rfl⟩ (Heap.IsSliceOf.new _ _ _ _) .none (.int _ _) .none (by intro x; cases x) ?_ (by rw [List.size_toArray, ra'.length, sizeLine_eq]; lia)
  have en : n = ((n.toNat : Nat) : Int) := by lia
  have e1 : slicePick ws.toArray none (some n) none = (ws.take n.toNat).toArray := by
    have key := slicePick_upto' ws.toArray n.toNat
    rw [Int.toNat_of_nonneg h0] at key
    rw [key]
  rw [e1]
  exact S₃.peF (t := s₂.toks) (o := lO (ws.take n.toNat) 0) rfl (.list (Led.add_self ..) ((ra'.take _).mono (Led.le_add (Led.fresh S₃.x.ef (Nat.le_refl _))))) hq
inductive KRn (o b : PV) (Q : PV → Mu → Prop) (u : PV) (μ₃ : Mu) : Prop
  | mk (l : List PV) (i n : Int) : o = .list l → b = .int i → u = .int n → 0 ≤ i → i ≤ n → n ≤ l.length → l.length ≤ 1000000 → Q (.list ((l.drop i.toNat).take (n.toNat - i.toNat))) μ₃ → KRn o b Q u μ₃
noncomputable abbrev kRn2 (c : Cx) (k : Nat) (sc : SC) (ρ : Rho) (o : PV) (ue : Expr) (Q : PV → Mu → Prop) : PV → Mu → Prop := fun b μ₂ => WE c k sc ρ μ₂ ue (KRn o b Q)
noncomputable abbrev kRn1 (c : Cx) (k : Nat) (sc : SC) (ρ : Rho) (le ue : Expr) (Q : PV → Mu → Prop) : PV → Mu → Prop := fun o μ₁ => WE c k sc ρ μ₁ le (kRn2 c k sc ρ o ue Q)
theorem WE_Run {value le ue : Expr} {p pos : Pos} {Q : PV → Mu → Prop} (h : WE c k sc ρ μ value (kRn1 c k sc ρ le ue Q)) :
    WE c k sc ρ μ (.Subscript value (.Slice (some le) (some ue) none p) pos) Q := fun A env X fz s E rm S => by
  refine Subscript_ (h.use S rm fun ov po μ₁ fz₁ s₁ h₁ ro l1 S₁ => ?_)
  rw [arm_eval_Slice]
  refine wpAny_bind (h₁.use S₁ rm fun bv pb μ₂ fz₂ s₂ h₂ rb l2 S₂ => wpAny_bind (wpAny_holding ?_))
  refine h₂.use S₂ rm fun uv pu μ₃ fz₃ s₃ h₃ ru l3 S₃ => ?_
  refine wpAny_bind (wpAny_holding (wpAny_pure ?_))
  obtain ⟨l, i, n, rfl, rfl, rfl, h0, h01, hn, hl, hq⟩ := h₃
  obtain ⟨t, rfl⟩ : ∃ t, uv = .int n t := ru.inv
  obtain ⟨t', rfl⟩ : ∃ t, bv = .int i t := rb.inv
  obtain ⟨_, _, _, rfl, ha, ra⟩ := ro.inv
  rename_i a ws m
  have ra' := ra.mono (l2.trans l3)
  have S₄ := S₃.push { cls := .type "slice", data := .fields #[.int i t', .int n t, .none] } s₃.toks
  refine newSlice ?_
  refine upE ((l1.trans l2).trans l3) (subTail (T := "list") ⟨_, S₄.x.ef _ _ (l3 _ _ (l2 _ _ ha)), rfl⟩ slot_list_getitem.lookup ?_)
  refine wpAny_getItem_list_slice (items := ws.toArray) (lo := some i) (hi := some n) (st := none) ⟨_, S₄.x.ef _ _ (l3 _ _ (l2 _ _ ha)), rfl, _, rfl⟩ (Heap.IsSliceOf.new _ _ _ _) (.int _ _) (.int _ _) .none (by intro x; cases x) ?_ (by rw [List.size_toArray, ra'.length, sizeLine_eq]; lia)
  have en : n = ((n.toNat : Nat) : Int) := by lia
  have ei : i = ((i.toNat : Nat) : Int) := by lia
  have e1 : slicePick ws.toArray (some i) (some n) none = ((ws.drop i.toNat).take (n.toNat - i.toNat)).toArray := by
    have key := slicePick_run ws.toArray i.toNat n.toNat (by rw [List.size_toArray, ra'.length]; lia) (by lia)
    rw [Int.toNat_of_nonneg h0, Int.toNat_of_nonneg (by lia)] at key
    rw [key]
  rw [e1]
  exact S₄.peF (t := s₃.toks) (o := lO ((ws.drop i.toNat).take (n.toNat - i.toNat)) 0) rfl (.list (Led.add_self ..) (((ra'.drop _).take _).mono (Led.le_add (Led.fresh S₄.x.ef (Nat.le_refl _))))) hq

noncomputable def Frz (c : Cx) (a : Addr) (l : List PV) (p p' : PV) : Prop := ∀ (fz : Led) vs n v, fz a = some (lO vs n) → RA c fz vs l → R c fz v p → R c fz v p'
theorem Frz.refl (a : Addr) (l : List PV) (p : PV) : Frz c a l p p := fun _ _ _ _ _ _ h => h
theorem Frz.ptr (a : Addr) (l : List PV) : Frz c a l (.ptr a) (.list l) := fun fz vs n v h1 h2 h3 => h3.inv ▸ .list h1 h2
inductive FrzAll (c : Cx) (a : Addr) (l : List PV) : List PV → List PV → Prop
  | nil : FrzAll c a l [] []
  | cons {p p' : PV} {ps ps' : List PV} : Frz c a l p p' → FrzAll c a l ps ps' → FrzAll c a l (p :: ps) (p' :: ps')
theorem FrzAll.ra {a : Addr} {l ps ps' : List PV} (h : FrzAll c a l ps ps') {fz : Led} {vs ws : List Value} {n : Nat} (h1 : fz a = some (lO vs n)) (h2 : RA c fz vs l) (h3 : RA c fz ws ps) : RA c fz ws ps' := by
  induction h generalizing ws with
  | nil => exact h3
  | cons f _ ih => obtain ⟨v, us, rfl, x, y⟩ := h3.consR; exact .cons (f _ _ _ _ h1 h2 x) (ih y)
theorem RF.swapF {n : Str} {p p' : PV} {fs fs' : List (Str × PV)} {es : List DictEntry} (r : RF c fz es (fs ++ (n, p) :: fs')) (h : ∀ v, R c fz v p → R c fz v p') : RF c fz es (fs ++ (n, p') :: fs') :=
  r.ind (P := fun es gs => ∀ fs, gs = fs ++ (n, p) :: fs' → RF c fz es (fs ++ (n, p') :: fs')) (fun fs e => absurd e.symm (by simp)) (fun a b i fs => List.casesOn fs (fun e => by
      have e := List.cons.inj e
      cases e.1; exact .cons (h _ a) (e.2 ▸ b)) fun x fs e => by
      have e := List.cons.inj e
      exact e.1 ▸ .cons a (i fs e.2)) fs rfl
theorem Frz.list {a : Addr} {l ps ps' : List PV} (h : FrzAll c a l ps ps') : Frz c a l (.list ps) (.list ps') := fun fz vs n v h1 h2 h3 => by obtain ⟨_, _, _, rfl, x, y⟩ := h3.inv; exact .list x (h.ra h1 h2 y)
theorem FrzAll.refl (a : Addr) (l : List PV) : ∀ ps : List PV, FrzAll c a l ps ps
  | [] => .nil
  | p :: ps => .cons (.refl a l p) (FrzAll.refl a l ps)
theorem Sim.swapR {fz₂ : Led} {μ₂ : Mu} {ρ' : Rho} (S : Sim c env sc X fz ρ μ s) (hS : Sim c env sc X fz₂ ρ μ₂ s) (hρ : ∀ x p', ρ'.lookup x = some p' → ∃ p, ρ.lookup x = some p ∧ ∀ r, R c fz r p → R c fz₂ r p') : Sim c env sc X fz₂ ρ' μ₂ s :=
  ⟨hS.x, ⟨S.e.ns.elim fun m p => ⟨m, p.1, fun x p' e q => (hρ x p' q).elim fun w z => (p.2 x w e z.1).elim fun r y => ⟨r, y.1, z.2 r y.2⟩⟩, hS.e.free, fun x p' e q => (hρ x p' q).elim fun w z => (S.e.cells x w e z.1).elim fun b y => y.elim fun r y => ⟨b, r, y.1, y.2.1, z.2 r y.2.2⟩,
    hS.e.bor, hS.e.ownd, hS.e.inj, hS.e.kind⟩, hS.ok⟩
theorem WSs_freeze {a : Addr} {l : List PV} {ρ' : Rho} {st : List Stmt} {Q : PPost} (hm : μ a = some (.list l)) (hρ : ∀ x p', ρ'.lookup x = some p' → ∃ p, ρ.lookup x = some p ∧ Frz c a l p p') (h : WSs c k sc ρ' (μ.del a) st Q) : WSs c k sc ρ μ st Q := fun A env X fz s E rm S => by
  obtain ⟨o, ho, ro, z1, z2⟩ := S.x.mu a _ hm
  obtain ⟨_, _, rfl, ra⟩ := ro.inv
  rename_i vs n
  have hS := S.freeze hm ho
  have le := Led.le_add (f := fz) (a := a) (o := lO vs n) z2
  have ra' := ra.mono le
  have S' : Sim c env sc X (fz.add a (lO vs n)) ρ' (μ.del a) s := hS.swapR hS fun x p' q => (hρ x p' q).imp fun p z => ⟨z.1, fun r h => z.2 _ _ _ _ (Led.add_self ..) ra' h⟩
  exact upS le (h A env X _ s E rm S')
end
section
variable {c : Cx} {k : Nat} {sc : SC} {ρ : Rho} {μ : Mu}

theorem rangeSize_nat (n : Nat) : Builtin.Range.rangeSize 0 n 1 = n := by
  rw [rangeSize_one]; split <;> lia
theorem items_rng (n : Nat) (hn : n ≤ 1000000) : Items (.rng 0 n 1) = some ((List.range n).map fun (i : Nat) => .int i) := by
  simp only [Items]
  rw [if_pos ⟨small_one (by decide) (by decide) (by lia) (by lia), by rw [rangeSize_nat]; lia⟩]
  unfold rngItems rngN
  rw [rangeSize_nat]
  simp

noncomputable def CompH (c : Cx) (k : Nat) (sc : SC) (ρ : Rho) (μ : Mu) (elt iter : Expr) (x : Str) (scope : Scope) (ρi : Rho) (Q : PV → Mu → Prop) : Prop :=
  WE c k sc ρ μ iter (KH c k (innerSC scope sc) ρi x elt (fun rs μ' => Q (.list rs) μ'))
theorem WE_CompH {elt iter : Expr} {x : Str} {px pos : Pos} {scope : Scope} {Q : PV → Mu → Prop} (ρi : Rho)
    (hc : compOk scope sc.scope = true) (hns : notSet iter = true) (hρ : FrC sc.scope scope ρ ρi) {kd : NameKind} (hx : (innerSC scope sc).scope.names.lookup x = some kd) (h3 : kd = .local ∨ (kd = .cell ∧ x ∈ ownOf scope))
    (h : CompH c k sc ρ μ elt iter x scope ρi Q) : WE c k sc ρ μ (.ListComp elt [⟨.Name x px, iter, [], 0⟩] scope pos) Q := WE_Comp ρi hc hns hρ hx h3 h
theorem WS_CompH {elt iter : Expr} {x y : Str} {px py pos spos : Pos} {scope : Scope} {Q : PPost} (ρi : Rho)
    (hsw : swapsWith (.ListComp elt [⟨.Name x px, iter, [], 0⟩] scope pos) (some (.Name y py)) spos.line (env0 sc.scope) = pure true)
    (hc : compOk scope sc.scope = true) (hns : notSet iter = true) (hρ : FrC sc.scope scope ρ ρi) {kd : NameKind} (hx : (innerSC scope sc).scope.names.lookup x = some kd) (h3 : kd = .local ∨ (kd = .cell ∧ x ∈ ownOf scope))
    (hy : sc.scope.names.lookup y = some .local) (h : CompH c k sc ρ μ elt iter x scope ρi (fun v μ' => Q .next (ρ.set y v) μ')) :
    WS c k sc ρ μ (.Assign [.Name y py] (.ListComp elt [⟨.Name x px, iter, [], 0⟩] scope pos) spos) Q := WS_AssignComp ρi hsw hc hns hρ hx h3 hy h
noncomputable abbrev kEq (v : PV) (μ : Mu) : PV → Mu → Prop := fun w μ₂ => w = v ∧ μ₂ = μ
inductive KcR (c : Cx) (k : Nat) (sc : SC) (ρi : Rho) (x : Str) (elt : Expr) (f : Nat → PV) (Q : PV → Mu → Prop) (v : PV) (μ₁ : Mu) : Prop
  | mk (n : Nat) : v = .rng 0 n 1 → n ≤ 1000000 → (∀ i, i < n → WE c k sc (ρi.set x (.int i)) μ₁ elt (kEq (f i) μ₁)) → Q (.list ((List.range n).map f)) μ₁ → KcR c k sc ρi x elt f Q v μ₁
inductive KcL (c : Cx) (k : Nat) (sc : SC) (ρi : Rho) (x : Str) (elt : Expr) (f : PV → PV) (Q : PV → Mu → Prop) (v : PV) (μ₁ : Mu) : Prop
  | mk (l : List PV) : Items v = some l → l.length ≤ 1000000 → (∀ p, p ∈ l → WE c k sc (ρi.set x p) μ₁ elt (kEq (f p) μ₁)) → Q (.list (l.map f)) μ₁ → KcL c k sc ρi x elt f Q v μ₁
inductive KcG (c : Cx) (k : Nat) (sc : SC) (ρi : Rho) (x : Str) (elt : Expr) (f : Nat → PV) (Q : PV → Mu → Prop) (v : PV) (μ₁ : Mu) : Prop
  | mk (n : Nat) (g : Nat → PV) : v = .list ((List.range n).map g) → n ≤ 1000000 → (∀ i, i < n → WE c k sc (ρi.set x (g i)) μ₁ elt (kEq (f i) μ₁)) → Q (.list ((List.range n).map f)) μ₁ → KcG c k sc ρi x elt f Q v μ₁
noncomputable abbrev kStep {σ : Type} (M : σ → Mu) (I : Nat → List PV → σ → Prop) (i : Nat) (rs : List PV) : PV → Mu → Prop := fun w μ₂ => ∃ t', μ₂ = M t' ∧ I (i + 1) (rs ++ [w]) t'
inductive KcM (σ : Type) (c : Cx) (k : Nat) (sc : SC) (ρi : Rho) (x : Str) (elt : Expr) (Q : PV → Mu → Prop) (v : PV) (μ₁ : Mu) : Prop
  | mk (n : Nat) (M : σ → Mu) (I : Nat → List PV → σ → Prop) (t₀ : σ) : v = .rng 0 n 1 → n ≤ 1000000 → μ₁ = M t₀ → I 0 [] t₀ →
      (∀ i rs t, i < n → I i rs t → WE c k sc (ρi.set x (.int i)) (M t) elt (kStep M I i rs)) → (∀ rs t, I n rs t → Q (.list rs) (M t)) → KcM σ c k sc ρi x elt Q v μ₁
noncomputable abbrev kTurn {σ : Type} (L : Nat → σ → Rho) (M : Nat → σ → Mu) (I : Nat → σ → Prop) (Q : PPost) (i : Nat) : PPost := fun f ρ₃ μ₃ => match f with
  | .next | .cont => ∃ t', I (i + 1) t' ∧ Rho.Le (L (i + 1) t') ρ₃ ∧ Mu.le (M (i + 1) t') μ₃
  | .brk => False
  | .ret v => Q (.ret v) ρ₃ μ₃
inductive KfR (σ : Type) (c : Cx) (k : Nat) (sc : SC) (x : Str) (body : List Stmt) (Q : PPost) (ρ : Rho) (v : PV) (μ₁ : Mu) : Prop
  | mk (n : Nat) (L : Nat → σ → Rho) (M : Nat → σ → Mu) (I : Nat → σ → Prop) (t₀ : σ) : v = .rng 0 n 1 → n ≤ 1000000 → I 0 t₀ → Rho.Le (L 0 t₀) ρ → Mu.le (M 0 t₀) μ₁ →
      (∀ i t, i < n → I i t → WSs c k sc ((L i t).set x (.int i)) (M i t) body (kTurn L M I Q i)) → (∀ t ρ' μ', I n t → Rho.Le (L n t) ρ' → Mu.le (M n t) μ' → Q .next ρ' μ') → KfR σ c k sc x body Q ρ v μ₁
inductive KfL (σ : Type) (c : Cx) (k : Nat) (sc : SC) (x : Str) (body : List Stmt) (Q : PPost) (ρ : Rho) (v : PV) (μ₁ : Mu) : Prop
  | mk (l : List PV) (L : Nat → σ → Rho) (M : Nat → σ → Mu) (I : Nat → σ → Prop) (t₀ : σ) : Items v = some l → I 0 t₀ → Rho.Le (L 0 t₀) ρ → Mu.le (M 0 t₀) μ₁ →
      (∀ i p t, l[i]? = some p → I i t → WSs c k sc ((L i t).set x p) (M i t) body (kTurn L M I Q i)) → (∀ t ρ' μ', I l.length t → Rho.Le (L l.length t) ρ' → Mu.le (M l.length t) μ' → Q .next ρ' μ') → KfL σ c k sc x body Q ρ v μ₁
inductive kApp (ρ : Rho) (a : Addr) (Q : PPost) (v : PV) (μ₁ : Mu) : Prop
  | mk (l : List PV) : μ₁ a = some (.list l) → l.length ≤ 1000000 → Q .next ρ (μ₁.set a (.list (l ++ [v]))) → kApp ρ a Q v μ₁
theorem compR {elt iter : Expr} {x : Str} {scope : Scope} {Q : PV → Mu → Prop} {ρi : Rho} (f : Nat → PV)
    (h : WE c k sc ρ μ iter (KcR c k (innerSC scope sc) ρi x elt f Q)) :
    CompH c k sc ρ μ elt iter x scope ρi Q := by
  refine h.mono fun v μ₁ hv => ?_
  obtain ⟨n, rfl, hn, step, fin⟩ := hv
  refine ⟨_, fun i rs μ' => rs = (List.range i).map f ∧ μ' = μ₁, items_rng n hn, by simpa using hn, ⟨rfl, rfl⟩, fun i p rs μ' hp hi => ?_, fun rs μ' hi => ?_⟩
  · obtain ⟨rfl, rfl⟩ := hi
    rw [List.getElem?_map] at hp
    obtain ⟨j, hj, rfl⟩ := Option.map_eq_some_iff.mp hp
    obtain ⟨hlt, rfl⟩ := List.getElem?_eq_some_iff.mp hj
    rw [List.length_range] at hlt
    rw [List.getElem_range]
    refine (step i hlt).mono fun w μ₂ hw => ?_
    obtain ⟨rfl, rfl⟩ := hw
    exact ⟨by rw [List.range_succ, List.map_append]; rfl, rfl⟩
  · obtain ⟨rfl, rfl⟩ := hi
    rw [List.length_map, List.length_range]
    exact fin
theorem compRM {elt iter : Expr} {x : Str} {scope : Scope} {Q : PV → Mu → Prop} {ρi : Rho} {σ : Type}
    (h : WE c k sc ρ μ iter (KcM σ c k (innerSC scope sc) ρi x elt Q)) :
    CompH c k sc ρ μ elt iter x scope ρi Q := by
  refine h.mono fun v μ₁ hv => ?_
  obtain ⟨n, M, I, t₀, rfl, hn, rfl, i0, step, fin⟩ := hv
  refine ⟨_, fun i rs μ' => ∃ t, μ' = M t ∧ I i rs t, items_rng n hn, by simpa using hn, ⟨t₀, rfl, i0⟩, fun i p rs μ' hp hi => ?_, fun rs μ' hi => ?_⟩
  · obtain ⟨t, rfl, hi⟩ := hi
    rw [List.getElem?_map] at hp
    obtain ⟨j, hj, rfl⟩ := Option.map_eq_some_iff.mp hp
    obtain ⟨hlt, rfl⟩ := List.getElem?_eq_some_iff.mp hj
    rw [List.length_range] at hlt
    rw [List.getElem_range]
    exact step i rs t hlt hi
  · obtain ⟨t, rfl, hi⟩ := hi
    rw [List.length_map, List.length_range] at hi
    exact fin rs t hi
theorem compL {elt iter : Expr} {x : Str} {scope : Scope} {Q : PV → Mu → Prop} {ρi : Rho} (f : PV → PV)
    (h : WE c k sc ρ μ iter (KcL c k (innerSC scope sc) ρi x elt f Q)) :
    CompH c k sc ρ μ elt iter x scope ρi Q := by
  refine h.mono fun v μ₁ hv => ?_
  obtain ⟨l, hl, hn, step, fin⟩ := hv
  refine ⟨l, fun i rs μ' => rs = (l.take i).map f ∧ μ' = μ₁, hl, hn, ⟨by simp, rfl⟩, fun i p rs μ' hp hi => ?_, fun rs μ' hi => ?_⟩
  · obtain ⟨rfl, rfl⟩ := hi
    refine (step p (List.mem_of_getElem? hp)).mono fun w μ₂ hw => ?_
    obtain ⟨rfl, rfl⟩ := hw
    refine ⟨?_, rfl⟩
    rw [List.take_add_one, hp, List.map_append]; rfl
  · obtain ⟨rfl, rfl⟩ := hi
    rw [List.take_length]
    exact fin
theorem compG {elt iter : Expr} {x : Str} {scope : Scope} {Q : PV → Mu → Prop} {ρi : Rho} (f : Nat → PV)
    (h : WE c k sc ρ μ iter (KcG c k (innerSC scope sc) ρi x elt f Q)) :
    CompH c k sc ρ μ elt iter x scope ρi Q := by
  refine h.mono fun v μ₁ hv => ?_
  obtain ⟨n, g, rfl, hn, step, fin⟩ := hv
  refine ⟨_, fun i rs μ' => rs = (List.range i).map f ∧ μ' = μ₁, rfl, by simpa using hn, ⟨rfl, rfl⟩, fun i p rs μ' hp hi => ?_, fun rs μ' hi => ?_⟩
  · obtain ⟨rfl, rfl⟩ := hi
    rw [List.getElem?_map] at hp
    obtain ⟨j, hj, rfl⟩ := Option.map_eq_some_iff.mp hp
    obtain ⟨hlt, rfl⟩ := List.getElem?_eq_some_iff.mp hj
    rw [List.length_range] at hlt
    rw [List.getElem_range]
    refine (step i hlt).mono fun w μ₂ hw => ?_
    obtain ⟨rfl, rfl⟩ := hw
    exact ⟨by rw [List.range_succ, List.map_append]; rfl, rfl⟩
  · obtain ⟨rfl, rfl⟩ := hi
    rw [List.length_map, List.length_range]
    exact fin
theorem WE_CompR {elt iter : Expr} {x : Str} {px pos : Pos} {scope : Scope} {Q : PV → Mu → Prop} (ρi : Rho) (f : Nat → PV)
    (hc : compOk scope sc.scope = true) (hns : notSet iter = true) (hρ : FrC sc.scope scope ρ ρi) {kd : NameKind} (hx : (innerSC scope sc).scope.names.lookup x = some kd) (h3 : kd = .local ∨ (kd = .cell ∧ x ∈ ownOf scope))
    (h : WE c k sc ρ μ iter (KcR c k (innerSC scope sc) ρi x elt f Q)) :
    WE c k sc ρ μ (.ListComp elt [⟨.Name x px, iter, [], 0⟩] scope pos) Q := WE_CompH ρi hc hns hρ hx h3 (compR f h)
theorem WE_CompL {elt iter : Expr} {x : Str} {px pos : Pos} {scope : Scope} {Q : PV → Mu → Prop} (ρi : Rho) (f : PV → PV)
    (hc : compOk scope sc.scope = true) (hns : notSet iter = true) (hρ : FrC sc.scope scope ρ ρi) {kd : NameKind} (hx : (innerSC scope sc).scope.names.lookup x = some kd) (h3 : kd = .local ∨ (kd = .cell ∧ x ∈ ownOf scope))
    (h : WE c k sc ρ μ iter (KcL c k (innerSC scope sc) ρi x elt f Q)) :
    WE c k sc ρ μ (.ListComp elt [⟨.Name x px, iter, [], 0⟩] scope pos) Q := WE_CompH ρi hc hns hρ hx h3 (compL f h)

theorem WS_ForR {σ : Type} {x : Str} {px pos : Pos} {iter : Expr} {body : List Stmt} {Q : PPost} (hfs : notSet iter = true) {kd : NameKind} (hk : sc.scope.names.lookup x = some kd) (h3 : kd = .local ∨ (kd = .cell ∧ x ∈ sc.own))
    (h : WE c k sc ρ μ iter (KfR σ c k sc x body Q ρ)) : WS c k sc ρ μ (.For (.Name x px) iter body [] pos) Q := by
  refine WS_For hfs (h.mono fun v μ₁ hv => ?_)
  obtain ⟨n, L, M, I, t₀, rfl, hn, i0, hL, hM, step, fin⟩ := hv
  refine ⟨_, fun i ρ' μ' => ∃ t, I i t ∧ Rho.Le (L i t) ρ' ∧ Mu.le (M i t) μ', items_rng n hn, ⟨t₀, i0, hL, hM⟩, fun i p ρ' μ' hp hi => ?_, fun ρ' μ' hi => ?_⟩
  · obtain ⟨t, hi, hl, hm⟩ := hi
    rw [List.getElem?_map] at hp
    obtain ⟨j, hj, rfl⟩ := Option.map_eq_some_iff.mp hp
    obtain ⟨hlt, rfl⟩ := List.getElem?_eq_some_iff.mp hj
    rw [List.length_range] at hlt
    rw [List.getElem_range]
    refine (WA_Name hk h3 ?_ : WA c k sc (L i t) (M i t) _ _ _).weak hl.le hm
    refine (step i t hlt hi).mono fun f ρ₃ μ₃ hf => ?_
    cases f with
    | brk => exact hf.elim
    | next => exact hf
    | cont => exact hf
    | ret v => exact hf
  · rw [List.length_map, List.length_range] at hi
    obtain ⟨t, hi, hl, hm⟩ := hi
    exact fin t ρ' μ' hi hl hm
theorem WS_ForL {σ : Type} {x : Str} {px pos : Pos} {iter : Expr} {body : List Stmt} {Q : PPost} (hfs : notSet iter = true) {kd : NameKind} (hk : sc.scope.names.lookup x = some kd) (h3 : kd = .local ∨ (kd = .cell ∧ x ∈ sc.own))
    (h : WE c k sc ρ μ iter (KfL σ c k sc x body Q ρ)) : WS c k sc ρ μ (.For (.Name x px) iter body [] pos) Q := by
  refine WS_For hfs (h.mono fun v μ₁ hv => ?_)
  obtain ⟨l, L, M, I, t₀, hl, i0, hL, hM, step, fin⟩ := hv
  refine ⟨l, fun i ρ' μ' => ∃ t, I i t ∧ Rho.Le (L i t) ρ' ∧ Mu.le (M i t) μ', hl, ⟨t₀, i0, hL, hM⟩, fun i p ρ' μ' hp hi => ?_, fun ρ' μ' hi => ?_⟩
  · obtain ⟨t, hi, hl, hm⟩ := hi
    refine (WA_Name hk h3 ?_ : WA c k sc (L i t) (M i t) _ _ _).weak hl.le hm
    refine (step i p t hp hi).mono fun f ρ₃ μ₃ hf => ?_
    cases f with
    | brk => exact hf.elim
    | next => exact hf
    | cont => exact hf
    | ret v => exact hf
  · obtain ⟨t, hi, hl, hm⟩ := hi
    exact fin t ρ' μ' hi hl hm
theorem Rho.Le.of {ρ ρ' : Rho} (h : subOf ρ (fun _ => true) ρ' = some ρ') : Rho.Le ρ' ρ := fun p hp => (subOf_at h p hp).1
theorem Mu.set_set (μ : Mu) (a : Addr) (m m' : MObj) : (μ.set a m).set a m' = μ.set a m' := by
  funext b; unfold Mu.set; split <;> rfl
theorem Mu.le_set {μ : Mu} {a : Addr} {m : MObj} (h : μ a = none) : Mu.le μ (μ.set a m) := fun b o e => by
  rw [Mu.set_ne]; exact e
  rintro rfl; rw [h] at e; cases e
theorem Mu.del_set {μ : Mu} {a : Addr} {m : MObj} (h : μ a = none) : (μ.set a m).del a = μ := by
  funext b; unfold Mu.del Mu.set; split
  · rename_i e; rw [e, h]
  · rfl
theorem WSs_weak {st : List Stmt} {ρ' : Rho} {μ' : Mu} {Q : PPost} (hr : Rho.Le ρ' ρ) (hm : Mu.le μ' μ) (h : WSs c k sc ρ' μ' st Q) : WSs c k sc ρ μ st Q := h.weak hr.le hm
theorem WS_append {x : Str} {p1 p2 p3 p4 : Pos} {e : Expr} {a : Addr} {l₀ : List PV} {kd : NameKind} {Q : PPost} (hk : sc.scope.names.lookup x = some kd) (hr : ρ.lookup x = some (.ptr a)) (h3 : kd = .local ∨ kd = .cell ∨ kd = .free)
    (hd : (x == ("__debug__" : Str)) = false) (hc : (x == ("__classdict__" : Str)) = false) (hp : (p2.endLine == p3.line) = true) (he : notStar e = true) (hm : μ a = some (.list l₀))
    (h : WE c k sc ρ μ e (kApp ρ a Q)) : WS c k sc ρ μ (.Expr (.Call (.Attribute (.Name x p1) "append" p2) [e] [] p3) p4) Q := by
  refine WS_Expr rfl (WE_CallM (.inl rfl) hp (callee_builtin "list.append") (by show (notStar e && true) = true; rw [he]; rfl) (by show 1 < 30; decide) ?_)
  refine WE_Name hk hr ?_ h3 hd hc
  refine ⟨[.ptr a], meth_append hm, WEs_cons he (h.mono fun v μ₁ hv => ?_)⟩
  obtain ⟨l, h1, h2, h3⟩ := hv
  exact WEs_nil (WO_append h1 h2 ⟨rfl, h3⟩)
noncomputable def FR (F : PV → PV → Prop) (ρ : Rho) : Rho → Prop
  | [] => True
  | p :: r => (∃ q, ρ.lookup p.1 = some q ∧ F q p.2) ∧ FR F ρ r
theorem FR.at {F : PV → PV → Prop} {ρ ρi : Rho} (h : FR F ρ ρi) {x : Str} {v : PV} (e : ρi.lookup x = some v) : ∃ q, ρ.lookup x = some q ∧ F q v := by
  induction ρi with
  | nil => exact nomatch e
  | cons p r ih => exact lookup_case e (fun h1 h2 => h1 ▸ h2 ▸ h.1) fun _ e => ih h.2 e
noncomputable abbrev FrzR (c : Cx) (a : Addr) (l : List PV) (ρ : Rho) : Rho → Prop := FR (Frz c a l) ρ
theorem WSs_frz {a : Addr} {l : List PV} (ρ' : Rho) {st : List Stmt} {Q : PPost} (hm : μ a = some (.list l)) (hρ : FrzR c a l ρ ρ') (h : WSs c k sc ρ' (μ.del a) st Q) : WSs c k sc ρ μ st Q :=
  WSs_freeze hm (fun x p' e => hρ.at e) h
end
section
variable {c : Cx} {k : Nat} {sc : SC} {ρ : Rho} {μ : Mu} {env : Env} {X fz fz₁ : Led} {s : Shared} {A : Around} {E : Value → Shared → Prop}

theorem WA_TupleL {ts : List Expr} {vs : List PV} {n : Nat} {pos : Pos} {Q : Rho → Mu → Prop} (hl : ts.length = vs.length) (hs : ts.all notStar = true) (h : WAs c k sc ρ μ ts vs Q) : WA c k sc ρ μ (.Tuple ts n pos) (.list vs) Q :=
  fun A env X fz s E r rm rr S => by
    obtain ⟨_, _, _, rfl, ha, ra⟩ := rr.inv
    rename_i a rs m
    have hlen : ∀ ts : List Expr, (assignEach ts env).length = ts.length := by
      intro ts
      induction ts with
      | nil => rfl
      | cons t ts ih => cases t <;> exact congrArg (· + 1) ih
    have hst : ∀ ts : List Expr, ts.all notStar = true → (assignEach ts env).findIdx? (·.1) = none := by
      intro ts
      induction ts with
      | nil => intro _; rfl
      | cons t ts ih =>
        intro e
        rw [List.all_cons, Bool.and_eq_true] at e
        have e1 : assignEach (t :: ts) env = (false, assign t env) :: assignEach ts env := by cases t <;> first | rfl | (cases e.1)
        rw [e1, List.findIdx?_cons]
        simp [ih e.2]
    rw [assign_Tuple]
    refine wpAny_bind (wpAny_standAt ?_)
    unfold unpack
    have e2 : (assignEach ts env).length = rs.toArray.size := by rw [hlen, hl, List.size_toArray, ra.length]
    rw [e2, hst ts hs]
    refine wpAny_bind (wpAny_holding (kun_itemsOf (items := rs.toArray) rm.1 ⟨_, S.x.ef _ _ ha, rfl, _, rfl⟩ fun h' he => ?_))
    have hk : ∀ b o, s.heap.get? b = some o → h'.get? b = some o := fun b o e => he b o (Nat.ne_of_lt (Heap.lt_size e)) e
    exact h A env X fz { s with heap := h' } E rs rm ra (S.keep rfl rfl hk)

theorem wp_pos {α : Type} {M : Model} {A : Around} {b : Prop} [Decidable b] {x y : Sem α} {Q : α → Shared → Prop} {E : Value → Shared → Prop} {s : Shared} (h : b) (hw : wpAny M A x Q E s) : wpAny M A (if b then x else y) Q E s := by rw [if_pos h]; exact hw
theorem wp_neg {α : Type} {M : Model} {A : Around} {b : Prop} [Decidable b] {x y : Sem α} {Q : α → Shared → Prop} {E : Value → Shared → Prop} {s : Shared} (h : ¬ b) (hw : wpAny M A y Q E s) : wpAny M A (if b then x else y) Q E s := by rw [if_neg h]; exact hw
theorem bounds_in {a b n : Nat} (hab : a ≤ b) (hb : b ≤ n) : sliceBounds (some (a : Int)) (some (b : Int)) none n = ((a : Int), (b : Int), 1) := by
  have h1 : ∀ x : Nat, ¬ ((x : Int) < 0) := fun x => Int.not_lt.mpr (Int.natCast_nonneg x)
  have h2 : ∀ x : Nat, x ≤ n → max 0 (min (x : Int) n) = x := fun x h => by rw [Int.min_eq_left (Int.ofNat_le.mpr h), Int.max_eq_right (Int.natCast_nonneg x)]
  simp only [sliceBounds, Option.getD_none, h1, if_false, show (1 : Int) > 0 by decide, if_true, h2 a (Nat.le_trans hab hb), h2 b hb]
theorem ins_size {items new : Array Value} {a b N : Nat} (hb : b ≤ items.size) (hab : a ≤ b) (hz : items.size + new.size ≤ N) : (items.extract 0 ((a : Nat) : Int).toNat ++ new ++ items.extract ((b : Nat) : Int).toNat).size ≤ N + 1 := by
  rw [Array.size_append, Array.size_append, Array.size_extract, Array.size_extract, Int.toNat_natCast, Int.toNat_natCast, Nat.min_eq_left (Nat.le_trans hab hb), Nat.min_self]
  generalize items.size = m at *
  generalize new.size = k at *
  lia
theorem setItem_list_run {l sl v : Addr} {items new : Array Value} {n m a b : Nat} {t u : Tok} {Q : Unit → Shared → Prop} (ho : s.heap.get? l = some (listOf items n)) (hv : s.heap.get? v = some (listOf new m)) (hne : l ≠ v)
    (hs : s.heap.IsSliceOf sl (.int a t) (.int b u) .none) (hab : a ≤ b) (hb : b ≤ items.size) (hz : items.size + new.size ≤ sizeLine)
    (hQ : Q () { s with heap := s.heap.update l (Obj.mapSeq fun xs => xs.extract 0 a ++ new ++ xs.extract b) }) : wpAny c.M A (setItem (.ref l) (.ref sl) (.ref v)) Q E s := by
  have hl : s.heap.IsList l items := PySem.IsL.isList (n := n) ho
  obtain ⟨os, hos, hcs, hds⟩ := id hs
  have hTs : s.TypeIs (.ref sl) "slice" := ⟨os, hos, hcs⟩
  unfold setItem
  try with_reducible refine wpAny_holding ?_
  first | refine wpAny_bind (wpAny_pure ?_) | skip
  refine wpAny_bind (wpAny_sequenceKey hl.typeIs (by decide) ?_)
  refine wpAny_bind (wpAny_callSpecial?_slot (name := Str.ofString "__setitem__") hl.typeIs slot_list_setitem
    (wpAny_call_entry slot_list_setitem hl.typeIs entry_list_setitem ?_ (args_list_setitem _ _ _)))
  show wpAny _ _ (Builtin.List.listSubscript? (.ref sl) >>= _) _ _ s
  refine wpAny_bind ?_
  unfold Builtin.List.listSubscript?
  refine wpAny_bind (wpAny_specialOf hTs slice_no_index ?_)
  refine wp_pos rfl ?_
  refine wpAny_pure ?_
  show wpAny _ _ (typeOf (.ref sl) >>= _) _ _ s
  refine wpAny_bind (wpAny_typeOf hTs ?_)
  refine wp_neg (by decide) ?_
  rw [listSliceParts_eq]
  refine wpAny_bind (wpAny_bind (wpAny_field hos hds (x := .none) rfl (wpAny_bind (wpAny_listPart .none ?_))))
  refine wp_neg Bool.false_ne_true ?_
  refine wpAny_bind (wpAny_field hos hds (x := .int a t) rfl (wpAny_bind (wpAny_listPart (.int _ _) ?_)))
  refine wpAny_bind (wpAny_field hos hds (x := .int b u) rfl (wpAny_bind (wpAny_listPart (.int _ _) (wpAny_pure ?_))))
  have hsame : Builtin.List.listSameRef (.ref l) (.ref v) = false := by show (l == v) = false; simpa using hne
  dsimp only
  rw [hsame]
  have hTv : s.TypeIs (.ref v) "list" := ⟨_, hv, rfl⟩
  refine wpAny_bind (m := Builtin.List.listAllItems (.ref v) _) ?_
  · unfold Builtin.List.listAllItems
    refine wpAny_bind (wpAny_typeOf hTv ?_)
    refine wp_pos (by decide) ?_
    refine listItems_at hv rfl ?_
    refine wpAny_bind (m := Builtin.List.listItems (.ref l)) (listItems_at ho rfl ?_)
    refine wpAny_bind (wpAny_of_eq (sliceIndices_raw (some (a : Int)) (some (b : Int)) none items.size (by intro x; cases x)) ?_)
    rw [bounds_in hab hb]
    dsimp only
    refine wp_pos (by decide) ?_
    refine wpAny_bind (wpAny_rule ?_)
    have hlong : Builtin.List.listTooLong (items.size + new.size) = false := by
      unfold Builtin.List.listTooLong
      exact decide_eq_false (Nat.not_lt.mpr hz)
    rw [hlong]
    refine wpAny_bind (listUpdate_at ho rfl ?_ (Nat.le_trans (Nat.le_add_right _ _) hz) ?_)
    · have e1 : (max (a : Int) b).toNat = b := by rw [Int.max_eq_right (Int.ofNat_le.mpr hab)]; rfl
      rw [e1]
      refine wpAny_bind (wpAny_letGo ?_)
      first
        | exact wpAny_bind (wpAny_pure (wpAny_pure ⟨.none, rfl, wpAny_pure hQ⟩))
        | exact wpAny_pure ⟨.none, rfl, wpAny_pure hQ⟩
    · rw [Int.max_eq_right (Int.ofNat_le.mpr hab)]
      exact ins_size hb hab hz
end
section
variable {c : Cx} {k : Nat} {sc : SC} {ρ : Rho} {μ : Mu} {env : Env} {X fz fz₁ : Led} {s : Shared} {A : Around} {E : Value → Shared → Prop}

noncomputable def muF (μ : Mu) (as : List Addr) (f : Nat → List PV) : Mu := fun b => match as.idxOf? b with
  | some i => some (.list (f i))
  | none => μ b
theorem idx_get {as : List Addr} {i : Nat} {a : Addr} (h : as.idxOf? a = some i) : as[i]? = some a := by
  obtain ⟨hi, e, _⟩ := List.idxOf?_eq_some_iff.mp h
  rw [List.getElem?_eq_getElem hi, e]
theorem idx_of_nodup {as : List Addr} (hn : as.Nodup) {i : Nat} {a : Addr} (h : as[i]? = some a) : as.idxOf? a = some i := by
  obtain ⟨hi, rfl⟩ := List.getElem?_eq_some_iff.mp h
  rw [List.idxOf?_eq_some_iff]
  refine ⟨hi, rfl, fun j hj e => ?_⟩
  have := (List.pairwise_iff_getElem.mp hn) j i (by lia) hi hj
  exact this e
theorem muF_at {as : List Addr} {f : Nat → List PV} (hn : as.Nodup) {i : Nat} {a : Addr} (h : as[i]? = some a) : muF μ as f a = some (.list (f i)) := by
  unfold muF; rw [idx_of_nodup hn h]
theorem muF_out {as : List Addr} {f : Nat → List PV} {a : Addr} (h : a ∉ as) : muF μ as f a = μ a := by
  unfold muF; rw [List.idxOf?_eq_none_iff.mpr h]
theorem muF_in {as : List Addr} {f : Nat → List PV} {a : Addr} (h : a ∈ as) : ∃ i, muF μ as f a = some (.list (f i)) := by
  unfold muF
  cases q : as.idxOf? a with
  | none => exact absurd h (List.idxOf?_eq_none_iff.mp q)
  | some i => exact ⟨i, rfl⟩
theorem muF_none {as : List Addr} {f : Nat → List PV} {a : Addr} (h : muF μ as f a = none) : a ∉ as ∧ μ a = none := by
  have : a ∉ as := fun hm => by obtain ⟨i, e⟩ := muF_in (μ := μ) (f := f) hm; rw [e] at h; cases h
  exact ⟨this, by rwa [muF_out this] at h⟩
theorem muF_nil (f : Nat → List PV) : muF μ [] f = μ := rfl
theorem muF_set {as : List Addr} {f : Nat → List PV} (hn : as.Nodup) {i : Nat} {a : Addr} (h : as[i]? = some a) (l : List PV) : (muF μ as f).set a (.list l) = muF μ as (fun j => if j = i then l else f j) := by
  funext b
  by_cases hb : b = a
  · subst hb; rw [Mu.set_self, muF_at hn h, if_pos rfl]
  · rw [Mu.set_ne _ _ hb]
    unfold muF
    cases q : as.idxOf? b with
    | none => rfl
    | some j =>
      have : j ≠ i := by
        rintro rfl
        have := idx_get q
        rw [this] at h; cases h; exact hb rfl
      simp only [this, if_false]
theorem muF_push {as : List Addr} {f : Nat → List PV} {a : Addr} (ha : a ∉ as) {l : List PV} (hl : l = f as.length) : (muF μ as f).set a (.list l) = muF μ (as ++ [a]) f := by
  subst hl
  funext b
  by_cases hb : b = a
  · subst hb
    rw [Mu.set_self]
    unfold muF
    have : (as ++ [b]).idxOf? b = some as.length := by
      rw [List.idxOf?_eq_some_iff]
      refine ⟨by simp, by simp, fun j hj e => ?_⟩
      rw [List.getElem_append_left hj] at e
      exact ha (e ▸ List.getElem_mem hj)
    rw [this]
  · rw [Mu.set_ne _ _ hb]
    unfold muF
    cases q : as.idxOf? b with
    | none =>
      have h1 := List.idxOf?_eq_none_iff.mp q
      rw [List.idxOf?_eq_none_iff.mpr (by simp [h1, hb])]
    | some j =>
      obtain ⟨hj, e, hu⟩ := List.idxOf?_eq_some_iff.mp q
      have : (as ++ [a]).idxOf? b = some j := by
        rw [List.idxOf?_eq_some_iff]
        refine ⟨by simp; lia, by rw [List.getElem_append_left hj]; exact e, fun i hi e' => ?_⟩
        rw [List.getElem_append_left (by lia)] at e'
        exact hu i hi e'
      rw [this]
theorem muF_congr {as : List Addr} {f g : Nat → List PV} (h : ∀ i, i < as.length → f i = g i) : muF μ as f = muF μ as g := by
  funext b
  unfold muF
  cases q : as.idxOf? b with
  | none => rfl
  | some j =>
    obtain ⟨hj, _⟩ := List.idxOf?_eq_some_iff.mp q
    show some (MObj.list (f j)) = some (MObj.list (g j))
    rw [h j hj]
theorem Mu.le_eq {μ μ' : Mu} (h : μ' = μ) : Mu.le μ μ' := h ▸ .refl _
theorem muF_cons {a : Addr} {r : List Addr} {f : Nat → List PV} (ha : a ∉ r) : muF μ (a :: r) f = (muF μ r (fun i => f (i + 1))).set a (.list (f 0)) := by
  funext b
  by_cases hb : b = a
  · subst hb; rw [Mu.set_self]; unfold muF; simp [List.idxOf?_cons]
  · rw [Mu.set_ne _ _ hb]
    unfold muF
    have : (a == b) = false := by simpa using (Ne.symm hb)
    rw [List.idxOf?_cons, this]
    cases r.idxOf? b <;> rfl
theorem muF_del {a : Addr} {r : List Addr} {f : Nat → List PV} (ha : a ∉ r) : (muF μ r f).del a = muF (μ.del a) r f := by
  funext b
  by_cases hb : b = a
  · subst hb; rw [Mu.del_self, muF_out ha, Mu.del_self]
  · rw [Mu.del_ne _ hb]
    unfold muF
    cases r.idxOf? b with
    | none => simp only; rw [Mu.del_ne _ hb]
    | some i => rfl
theorem Mu.del_of_none {a : Addr} (h : μ a = none) : μ.del a = μ := by
  funext b; unfold Mu.del; split
  · rename_i e; rw [e, h]
  · rfl
theorem Sim.freezeF {as : List Addr} : ∀ {f : Nat → List PV} {fz : Led} (hn : as.Nodup) (hf : ∀ a ∈ as, μ a = none) (S : Sim c env sc X fz ρ (muF μ as f) s),
    ∃ fz', Led.le fz fz' ∧ (∀ i a, as[i]? = some a → ∃ vs n, fz' a = some (lO vs n) ∧ RA c fz' vs (f i)) ∧ Sim c env sc X fz' ρ μ s := by
  induction as with
  | nil => intro f fz hn hf S; exact ⟨fz, .refl _, fun i a h => (nomatch h), S⟩
  | cons a r ih =>
    intro f fz hn hf S
    obtain ⟨hna, hnr⟩ := List.nodup_cons.mp hn
    obtain ⟨o, ho, ro, z1, z2⟩ := S.x.mu a _ (muF_at hn (i := 0) rfl)
    obtain ⟨_, _, rfl, ra⟩ := ro.inv
    rename_i vs n
    have hS := S.freeze (muF_at hn (i := 0) rfl) ho
    have e : (muF μ (a :: r) f).del a = muF μ r (fun i => f (i + 1)) := by
      rw [muF_cons hna]
      rw [Mu.del_set (by rw [muF_out hna]; exact hf a (.head _))]
    rw [e] at hS
    obtain ⟨fz', le, hp, S'⟩ := ih hnr (fun b hb => hf b (.tail _ hb)) hS
    have le0 := Led.le_add (f := fz) (a := a) (o := lO vs n) z2
    refine ⟨fz', le0.trans le, fun i b hb => ?_, S'⟩
    cases i with
    | zero => cases hb; exact ⟨vs, n, le _ _ (Led.add_self ..), ra.mono (le0.trans le)⟩
    | succ i => exact hp i b hb

noncomputable def FrzF (c : Cx) (as : List Addr) (f : Nat → List PV) (p p' : PV) : Prop := ∀ (fz : Led) v, (∀ i a, as[i]? = some a → ∃ vs n, fz a = some (lO vs n) ∧ RA c fz vs (f i)) → R c fz v p → R c fz v p'
theorem FrzF.refl {as : List Addr} {f : Nat → List PV} (p : PV) : FrzF c as f p p := fun _ _ _ h => h
theorem FrzF.ptr {as : List Addr} {f : Nat → List PV} {i : Nat} {a : Addr} (h : as[i]? = some a) : FrzF c as f (.ptr a) (.list (f i)) := fun fz v h1 h3 => h3.inv ▸ (h1 i a h).elim fun _ p => p.elim fun _ p => .list p.1 p.2
theorem FrzF.ra {α : Type} {as : List Addr} {f : Nat → List PV} {g g' : α → PV} {fz : Led} (H : ∀ i a, as[i]? = some a → ∃ vs n, fz a = some (lO vs n) ∧ RA c fz vs (f i)) : ∀ {l : List α} {vs : List Value}, (∀ x ∈ l, FrzF c as f (g x) (g' x)) → RA c fz vs (l.map g) → RA c fz vs (l.map g') := by
  intro l
  induction l with
  | nil => exact fun _ r => r.nilR ▸ .nil
  | cons x l ih => intro vs h r; obtain ⟨v, ws, rfl, a, b⟩ := r.consR; exact .cons (h x (.head _) _ _ H a) (ih (fun y hy => h y (.tail _ hy)) b)
theorem FrzF.listMap {α : Type} {as : List Addr} {f : Nat → List PV} {g g' : α → PV} {l : List α} (h : ∀ x ∈ l, FrzF c as f (g x) (g' x)) : FrzF c as f (.list (l.map g)) (.list (l.map g')) := fun fz v H r => by
  obtain ⟨_, _, _, rfl, h1, h2⟩ := r.inv; exact .list h1 (FrzF.ra H h h2)
theorem FrzF.rf {as : List Addr} {f : Nat → List PV} {fz : Led} (H : ∀ i a, as[i]? = some a → ∃ vs n, fz a = some (lO vs n) ∧ RA c fz vs (f i)) {n : Str} {p p' : PV} (h : FrzF c as f p p') {fs fs' : List (Str × PV)} {es : List DictEntry} (r : RF c fz es (fs ++ (n, p) :: fs')) : RF c fz es (fs ++ (n, p') :: fs') := r.swapF (fun _ a => h _ _ H a)
theorem FrzF.inst {as : List Addr} {f : Nat → List PV} {cls n : Str} {p p' : PV} (fs fs' : List (Str × PV)) (h : FrzF c as f p p') : FrzF c as f (.inst cls (fs ++ (n, p) :: fs')) (.inst cls (fs ++ (n, p') :: fs')) := fun fz v H r => by
  obtain ⟨_, _, _, _, _, rfl, h1, h2, h3, h4⟩ := r.inv; exact .inst h1 h2 h3 (FrzF.rf H h h4)
theorem ptr_map (as : List Addr) : as.map PV.ptr = (List.range as.length).map fun i => .ptr (as.getD i 0) := by
  apply List.ext_getElem
  · simp
  · intro i h1 h2
    rw [List.length_map] at h1
    simp [List.getD_eq_getElem?_getD, h1]
theorem FrzF.rows {as : List Addr} {f : Nat → List PV} : FrzF c as f (.list (as.map .ptr)) (.list ((List.range as.length).map fun i => .list (f i))) := by
  rw [ptr_map]
  exact .listMap fun i hi => .ptr (i := i) (by rw [List.mem_range] at hi; rw [List.getD_eq_getElem?_getD, List.getElem?_eq_getElem hi]; rfl)
noncomputable abbrev FrzRF (c : Cx) (as : List Addr) (f : Nat → List PV) (ρ : Rho) : Rho → Prop := FR (FrzF c as f) ρ
theorem WSs_frzF {as : List Addr} {f : Nat → List PV} (ρ' : Rho) {st : List Stmt} {Q : PPost} (hn : as.Nodup) (hf : ∀ a ∈ as, μ a = none) (hρ : FrzRF c as f ρ ρ') (h : WSs c k sc ρ' μ st Q) : WSs c k sc ρ (muF μ as f) st Q := fun A env X fz s E rm S => by
  obtain ⟨fz', le, hp, S'⟩ := S.freezeF hn hf
  exact upS le (h A env X fz' s E rm (S'.swapR S' fun x p' q => (hρ.at q).imp fun p z => ⟨z.1, fun r h => z.2 _ _ hp h⟩))

inductive KSr (ρ : Rho) (o b v : PV) (Q : Rho → Mu → Prop) (u : PV) (μ₃ : Mu) : Prop
  | mk (a : Addr) (l : List PV) (i : Nat) (n : Nat) (l' : List PV) : o = .ptr a → μ₃ a = some (.list l) → b = .int i → u = .int n → v = .list l' → i ≤ n → n ≤ l.length → l.length + l'.length ≤ 1000000 → Q ρ (μ₃.set a (.list (l.take i ++ l' ++ l.drop n))) → KSr ρ o b v Q u μ₃
noncomputable abbrev kSr2 (c : Cx) (k : Nat) (sc : SC) (ρ : Rho) (o : PV) (ue : Expr) (v : PV) (Q : Rho → Mu → Prop) : PV → Mu → Prop := fun b μ₂ => WE c k sc ρ μ₂ ue (KSr ρ o b v Q)
noncomputable abbrev kSr1 (c : Cx) (k : Nat) (sc : SC) (ρ : Rho) (le ue : Expr) (v : PV) (Q : Rho → Mu → Prop) : PV → Mu → Prop := fun o μ₁ => WE c k sc ρ μ₁ le (kSr2 c k sc ρ o ue v Q)
theorem WA_SubRun {oe le ue : Expr} {p pos : Pos} {v : PV} {Q : Rho → Mu → Prop}
    (h : WE c k sc ρ μ oe (kSr1 c k sc ρ le ue v Q)) :
    WA c k sc ρ μ (.Subscript oe (.Slice (some le) (some ue) none p) pos) v Q := fun A env X fz s E r rm rr S => by
  rw [assign_Subscript]
  refine wpAny_bind (wpAny_holding (h.use S rm fun ov po μ₁ fz₁ s₁ h₁ ro l1 S₁ => wpAny_bind (wpAny_holding ?_)))
  rw [arm_eval_Slice]
  refine wpAny_bind (h₁.use S₁ rm fun bv pb μ₂ fz₂ s₂ h₂ rb l2 S₂ => wpAny_bind (wpAny_holding ?_))
  refine h₂.use S₂ rm fun uv pu μ₃ fz₃ s₃ h₃ ru l3 S₃ => ?_
  refine wpAny_bind (wpAny_holding (wpAny_pure ?_))
  obtain ⟨a, l, i, n, l', rfl, hm, rfl, rfl, rfl, h01, hn, hl, hq⟩ := h₃
  obtain ⟨t, rfl⟩ : ∃ t, uv = .int n t := ru.inv
  obtain ⟨t', rfl⟩ : ∃ t, bv = .int i t := rb.inv
  (first | obtain rfl := ro.inv | obtain ⟨_, rfl⟩ := ro.inv | obtain ⟨_, _, _, rfl, _, _⟩ := ro.inv | obtain ⟨_, _, rfl, _⟩ := ro.inv | obtain ⟨_, rfl, _⟩ := ro.inv | obtain ⟨_, _, _, rfl, _, _, _, _, _⟩ := ro.inv | obtain ⟨_, _, _, _, rfl, _, _, _, _⟩ := ro.inv | obtain ⟨_, _, _, _, rfl, _, _, _, _, _⟩ := ro.inv | cases ro)
  have rr' := rr.mono ((l1.trans l2).trans l3)
  have S₄ := S₃.push { cls := .type "slice", data := .fields #[.int i t', .int n t, .none] } s₃.toks
  refine newSlice (wpAny_bind (wpAny_standAt (wpAny_bind (wpAny_holding ?_))))
  obtain ⟨o, ho, ro, hXa, hfa⟩ := S₄.x.mu a _ hm
  obtain ⟨_, _, rfl, ra⟩ := ro.inv
  rename_i ws nw
  obtain ⟨_, _, _, rfl, hb, ra'⟩ := rr'.inv
  rename_i b us nb
  have hne : a ≠ b := by rintro rfl; rw [hfa] at hb; cases hb
  have hlw := ra.length
  have hlu := ra'.length
  refine setItem_list_run (items := ws.toArray) (new := us.toArray) ho (S₄.x.ef _ _ hb) hne (Heap.IsSliceOf.new _ _ _ _) h01 (by rw [List.size_toArray]; lia) (by rw [List.size_toArray, List.size_toArray, sizeLine_eq]; lia) ?_
  have q := PySem.IsL.update ho (fun xs => xs.extract 0 i ++ us.toArray ++ xs.extract n)
  have e1 : (ws.toArray.extract 0 i ++ us.toArray ++ ws.toArray.extract n) = (ws.take i ++ us ++ ws.drop n).toArray := by
    apply Array.ext'
    simp only [Array.toList_append, Array.toList_extract, List.extract_eq_take_drop, List.drop_zero, Nat.sub_zero]
    rw [List.size_toArray, show (ws.drop n).take (ws.length - n) = ws.drop n from List.take_of_length_le (by simp)]
  rw [e1] at q
  have S₅ := S₄.putμ (m := .list (l.take i ++ l' ++ l.drop n)) hm (s' := { s₃ with heap := (s₃.heap.push { cls := .type "slice", data := .fields #[.int i t', .int n t, .none] }).update a (Obj.mapSeq fun xs => xs.extract 0 i ++ us.toArray ++ xs.extract n) }) rfl rfl (fun b o hb e => ((Heap.SameBut.update ..).2 b hb).trans e) q (.list (((ra.take i).append ra').append (ra.drop n)))
  exact wpAny_release ⟨ρ, _, fz₃, hq, (l1.trans l2).trans l3, S₅⟩

theorem WE_AndC {e₁ e₂ : Expr} {es : List Expr} {pos : Pos} {Q : PV → Mu → Prop} (h : WE c k sc ρ μ e₁ (fun v μ₁ => ∃ b, v = .bool b ∧ (b = true → WE c k sc ρ μ₁ (.BoolOp .And (e₂ :: es) pos) Q) ∧ (b = false → Q (.bool false) μ₁))) :
    WE c k sc ρ μ (.BoolOp .And (e₁ :: e₂ :: es) pos) Q := fun A env X fz s E rm S => by
  refine BoolOp_and (h.use S rm fun v pv μ' fz' s' h₁ rv l1 S' => ?_)
  obtain ⟨b, rfl, h1, h2⟩ := h₁
  (first | obtain rfl := rv.inv | obtain ⟨_, rfl⟩ := rv.inv | obtain ⟨_, _, _, rfl, _, _⟩ := rv.inv | obtain ⟨_, _, rfl, _⟩ := rv.inv | obtain ⟨_, rfl, _⟩ := rv.inv | obtain ⟨_, _, _, rfl, _, _, _, _, _⟩ := rv.inv | obtain ⟨_, _, _, _, rfl, _, _, _, _⟩ := rv.inv | obtain ⟨_, _, _, _, rfl, _, _, _, _, _⟩ := rv.inv | cases rv)
  refine wpAny_truthy_bool ?_
  cases b with
  | true => exact upE l1 (h1 rfl A env X fz' s' E rm S')
  | false => exact ⟨_, μ', fz', h2 rfl, .bool _, l1, S'⟩
theorem WE_And1 {e : Expr} {pos : Pos} {Q : PV → Mu → Prop} (h : WE c k sc ρ μ e Q) : WE c k sc ρ μ (.BoolOp .And [e] pos) Q := fun A env X fz s E rm S => BoolOp_one (h A env X fz s E rm S)
theorem anyInt_iff (l : List Int) (i : Int) : (pdPs (l.map PV.int)).any (fun y => PyData.eqv y (.int i)) = l.contains i := by
  induction l with
  | nil => rfl
  | cons x l ih =>
    rw [List.map_cons, pdPs, List.any_cons, ih, List.contains_cons]
    congr 1
    show PyData.eqv (.int x) (.int i) = (i == x)
    have : PyData.eqv (.int x) (.int i) = (x == i) := rfl
    rw [this, Bool.eq_iff_iff]; simp; exact eq_comm
theorem WO_in_ints {l : List Int} {i : Int} {Q : PV → Mu → Prop} (h : Q (.bool (l.contains i)) μ) : WO c k (t2 (compareOp .In)) [.int i, .tuple (l.map .int)] μ Q := fun A env sc ρ X fz s E vs rm ra S => by
  obtain ⟨v, w, rfl, r1, r2⟩ := ra.inv2
  have ok : pdOk 1 (.tuple (l.map .int)) = true := List.all_eq_true.mpr fun p hp => by obtain ⟨i, _, rfl⟩ := List.mem_map.mp hp; rfl
  obtain ⟨as, q1⟩ := R.reads S.x.ef 1 r2 ok
  obtain ⟨bs, q2⟩ := R.reads (d := .int i) S.x.ef 0 r1 rfl
  rw [show pdP (.tuple (l.map .int)) = .tuple (pdPs (l.map .int)) from rfl] at q1
  rw [show pdP (.int i) = .int i from rfl] at q2
  refine PySem.SeqAt.in_tuple_reads q1 q2 ?_ rfl ?_ ?_
  · exact (pd_lay 1 _ ok).1
  · have := rm.u64
    have h3 : PyData.depth (.int i) = 0 := rfl
    have h2 : min (PyData.depthAll (pdPs (l.map PV.int))) (PyData.depth (.int i)) ≤ 0 := by rw [h3]; exact Nat.min_le_right _ _
    lia
  · rw [anyInt_iff]; exact S.pe (.bool _) h
theorem WO_notIn_ints {l : List Int} {i : Int} {Q : PV → Mu → Prop} (h : Q (.bool (!l.contains i)) μ) : WO c k (t2 (compareOp .NotIn)) [.int i, .tuple (l.map .int)] μ Q := fun A env sc ρ X fz s E vs rm ra S => by
  obtain ⟨v, w, rfl, r1, r2⟩ := ra.inv2
  have ok : pdOk 1 (.tuple (l.map .int)) = true := List.all_eq_true.mpr fun p hp => by obtain ⟨i, _, rfl⟩ := List.mem_map.mp hp; rfl
  obtain ⟨as, q1⟩ := R.reads S.x.ef 1 r2 ok
  obtain ⟨bs, q2⟩ := R.reads (d := .int i) S.x.ef 0 r1 rfl
  rw [show pdP (.tuple (l.map .int)) = .tuple (pdPs (l.map .int)) from rfl] at q1
  rw [show pdP (.int i) = .int i from rfl] at q2
  refine PySem.SeqAt.notIn_tuple_reads q1 q2 ?_ rfl ?_ ?_
  · exact (pd_lay 1 _ ok).1
  · have := rm.u64
    have h3 : PyData.depth (.int i) = 0 := rfl
    have h2 : min (PyData.depthAll (pdPs (l.map PV.int))) (PyData.depth (.int i)) ≤ 0 := by rw [h3]; exact Nat.min_le_right _ _
    lia
  · rw [anyInt_iff]; exact S.pe (.bool _) h
end
section
variable {c : Cx} {k : Nat} {sc : SC} {ρ : Rho} {μ : Mu} {env : Env} {X fz fz₁ : Led} {s : Shared} {A : Around} {E : Value → Shared → Prop}

theorem muF_over {as : List Addr} {f : Nat → List PV} {d : Addr} {m : MObj} (h : d ∉ as) : muF (μ.set d m) as f = (muF μ as f).set d m := by
  funext b
  by_cases hb : b = d
  · subst hb; rw [Mu.set_self, muF_out h, Mu.set_self]
  · rw [Mu.set_ne _ _ hb]
    unfold muF
    cases as.idxOf? b with
    | none => simp only; rw [Mu.set_ne _ _ hb]
    | some i => rfl
theorem muF_muF {as bs : List Addr} {f g : Nat → List PV} (h : ∀ b ∈ bs, b ∉ as) : muF (muF μ as f) bs g = muF μ (as ++ bs) (fun i => if i < as.length then f i else g (i - as.length)) := by
  funext b
  unfold muF
  cases q : bs.idxOf? b with
  | none =>
    simp only
    cases q2 : as.idxOf? b with
    | none =>
      rw [List.idxOf?_eq_none_iff.mpr (by simp [List.idxOf?_eq_none_iff.mp q, List.idxOf?_eq_none_iff.mp q2])]
    | some i =>
      obtain ⟨hi, e, hu⟩ := List.idxOf?_eq_some_iff.mp q2
      have : (as ++ bs).idxOf? b = some i := by
        rw [List.idxOf?_eq_some_iff]
        refine ⟨by simp; lia, by rw [List.getElem_append_left hi]; exact e, fun j hj e' => ?_⟩
        rw [List.getElem_append_left (by lia)] at e'
        exact hu j hj e'
      rw [this]
      simp [hi]
  | some i =>
    obtain ⟨hi, e, hu⟩ := List.idxOf?_eq_some_iff.mp q
    have hb : b ∉ as := h b (e ▸ List.getElem_mem hi)
    have : (as ++ bs).idxOf? b = some (as.length + i) := by
      rw [List.idxOf?_eq_some_iff]
      refine ⟨by simp; lia, by rw [List.getElem_append_right (by lia)]; simpa using e, fun j hj e' => ?_⟩
      by_cases hja : j < as.length
      · rw [List.getElem_append_left hja] at e'; exact hb (e' ▸ List.getElem_mem hja)
      · rw [List.getElem_append_right (by lia)] at e'
        exact hu (j - as.length) (by lia) e'
    rw [this]
    simp
    intro hlt; lia
theorem Mu.set_comm {a b : Addr} (h : a ≠ b) (m m' : MObj) : (μ.set a m).set b m' = (μ.set b m').set a m := by
  funext x; unfold Mu.set
  by_cases h1 : x = b
  · subst h1; simp [Ne.symm h]
  · simp [h1]
theorem Mu.set_del_ne {a b : Addr} (h : a ≠ b) (m : MObj) : (μ.set a m).del b = (μ.del b).set a m := by
  funext x; unfold Mu.set Mu.del
  by_cases h1 : x = b
  · subst h1; simp [Ne.symm h]
  · simp [h1]

inductive KfY (c : Cx) (Q : PV → Mu → Prop) (r : PV) (μ' : Mu) : Prop
  | mk (a : Addr) (l : List PV) (r' : PV) : μ' a = some (.list l) → Frz c a l r r' → Q r' (μ'.del a) → KfY c Q r μ'
inductive KcO (c : Cx) (k : Nat) (sc : SC) (ρi : Rho) (x : Str) (elt : Expr) (L : List PV) (Q : PV → Mu → Prop) (v : PV) (μ₁ : Mu) : Prop
  | mk (n : Nat) : v = .rng 0 n 1 → n ≤ 1000000 → (∀ i μ', i < n → WE c k sc (ρi.set x (.int i)) μ' elt (fun w μ₂ => ∃ a, w = .ptr a ∧ μ' a = none ∧ μ₂ = μ'.set a (.list L))) →
      (∀ as : List Addr, as.length = n → as.Nodup → (∀ a ∈ as, μ₁ a = none) → Q (.list (as.map .ptr)) (muF μ₁ as (fun _ => L))) → KcO c k sc ρi x elt L Q v μ₁
theorem WC_frzL {f : Value} {ps : List PV} {Q : PV → Mu → Prop} (h : WC c k f ps μ (KfY c Q)) : WC c k f ps μ Q := fun A X fz s vs RR rm ra S K =>
  h A X fz s vs RR rm ra S fun v s' hP => by
    obtain ⟨pv, μ', fz', ⟨a, l, r', hd, hfr, hq⟩, rv, le, S'⟩ := hP
    obtain ⟨o, ho, ro, z1, z2⟩ := S'.mu a _ hd
    obtain ⟨_, _, rfl, ra'⟩ := ro.inv
    rename_i us nn
    have hf := S'.freeze hd ho
    have l2 := Led.le_add (f := fz') (a := a) (o := lO us nn) z2
    exact K _ _ ⟨_, _, _, hq, hfr _ _ _ _ (Led.add_self ..) (ra'.mono l2) (rv.mono l2), le.trans l2, hf⟩
theorem Frz.inst {a : Addr} {l : List PV} {cls n : Str} {p p' : PV} (fs fs' : List (Str × PV)) (h : Frz c a l p p') : Frz c a l (.inst cls (fs ++ (n, p) :: fs')) (.inst cls (fs ++ (n, p') :: fs')) := fun fz vs m v h1 h2 r => by
  obtain ⟨_, _, _, _, _, rfl, i1, i2, i3, i4⟩ := r.inv; exact .inst i1 i2 i3 (i4.swapF fun _ a => h _ _ _ _ h1 h2 a)

theorem compRows {elt iter : Expr} {x : Str} {scope : Scope} {Q : PV → Mu → Prop} {ρi : Rho} (L : List PV)
    (h : WE c k sc ρ μ iter (KcO c k (innerSC scope sc) ρi x elt L Q)) :
    CompH c k sc ρ μ elt iter x scope ρi Q := by
  refine h.mono fun v μ₁ hv => ?_
  obtain ⟨n, rfl, hn, step, fin⟩ := hv
  refine ⟨_, fun i rs μ' => ∃ as : List Addr, as.length = i ∧ as.Nodup ∧ (∀ a ∈ as, μ₁ a = none) ∧ rs = as.map .ptr ∧ μ' = muF μ₁ as (fun _ => L), items_rng n hn, by simpa using hn, ⟨[], rfl, List.Pairwise.nil, fun _ h => (nomatch h), rfl, rfl⟩, fun i p rs μ' hp hi => ?_, fun rs μ' hi => ?_⟩
  · obtain ⟨as, hl, hnd, hf, rfl, rfl⟩ := hi
    rw [List.getElem?_map] at hp
    obtain ⟨j, hj, rfl⟩ := Option.map_eq_some_iff.mp hp
    obtain ⟨hlt, rfl⟩ := List.getElem?_eq_some_iff.mp hj
    rw [List.length_range] at hlt
    rw [List.getElem_range]
    refine (step i _ hlt).mono fun w μ₂ hw => ?_
    obtain ⟨a, rfl, ha, rfl⟩ := hw
    obtain ⟨hna, hma⟩ := muF_none ha
    refine ⟨as ++ [a], by simp [hl], ?_, ?_, by simp, muF_push hna rfl⟩
    · rw [List.nodup_append]
      exact ⟨hnd, by simp, fun x hx y hy e => by rw [List.mem_singleton] at hy; subst hy; subst e; exact hna hx⟩
    · intro b hb
      rcases List.mem_append.mp hb with hb | hb
      · exact hf b hb
      · rw [List.mem_singleton] at hb; subst hb; exact hma
  · obtain ⟨as, hl, hnd, hf, rfl, rfl⟩ := hi
    rw [List.length_map, List.length_range] at hl
    exact fin as hl hnd hf
theorem WE_CompRows {elt iter : Expr} {x : Str} {px pos : Pos} {scope : Scope} {Q : PV → Mu → Prop} (ρi : Rho) (L : List PV)
    (hc : compOk scope sc.scope = true) (hns : notSet iter = true) (hρ : FrC sc.scope scope ρ ρi) {kd : NameKind} (hx : (innerSC scope sc).scope.names.lookup x = some kd) (h3 : kd = .local ∨ (kd = .cell ∧ x ∈ ownOf scope))
    (h : WE c k sc ρ μ iter (KcO c k (innerSC scope sc) ρi x elt L Q)) :
    WE c k sc ρ μ (.ListComp elt [⟨.Name x px, iter, [], 0⟩] scope pos) Q := WE_CompH ρi hc hns hρ hx h3 (compRows L h)
end
section
variable {c : Cx} {k : Nat} {sc : SC} {ρ : Rho} {μ : Mu} {env : Env} {X fz fz₁ : Led} {s : Shared} {A : Around} {E : Value → Shared → Prop}

theorem WE_Dict0 {pos : Pos} {Q : PV → Mu → Prop} (ok : CxOk c) (h : ∀ a, μ a = none → Q (.ptr a) (μ.set a (.dict []))) : WE c k sc ρ μ (.Dict [] [] pos) Q := fun A env X fz s E rm S => by
  refine wpAny_Dict_empty ?_
  have hlow : (s.heap.objs.size == sysModules) = false := by
    have := modules_low (ok.lim.keeps S.base)
    simp; exact Nat.ne_of_gt this
  exact ⟨_, _, fz, h _ (Mu.fresh S.x (Nat.le_refl _)), .ptr _, .refl _, S.newM (o := dO #[] 0) rfl rfl (fun b o e => Heap.get?_push_of_some _ e) (Heap.get?_push_size _ rfl) (.dict (xs := []) hlow rfl (fun _ h => nomatch h) List.nodup_nil .nil)⟩
theorem intsKey {l : List Int} {vs : List Value} (h : RA c fz vs (l.map .int)) : ItemsAre (intKind c.prog c.w) l vs := by
  induction l generalizing vs with
  | nil => exact h.nilR ▸ .nil
  | cons i l ih =>
    obtain ⟨v, ws, rfl, a, b⟩ := h.consR
    obtain ⟨t, rfl⟩ := a.inv
    exact .cons (by simp [intKind, Value.isInt]) (ih b)
theorem atKey_hit {i : List Int} {a : Addr} {v : Value} {xs : List (List Int × Addr × Value)} : atKey ((i, a, v) :: xs) i = some (a, v) := by
  unfold atKey; rw [List.find?_cons, (decide_eq_true rfl : decide (i = i) = true)]; rfl
theorem atKey_miss {i j : List Int} {a : Addr} {v : Value} {xs : List (List Int × Addr × Value)} (h : i ≠ j) : atKey ((j, a, v) :: xs) i = atKey xs i := by
  unfold atKey; rw [List.find?_cons, (decide_eq_false (Ne.symm h) : decide (j = i) = false)]
theorem RD.get {xs : List (List Int × Addr × Value)} {ds : List (List Int × PV)} (h : RD c fz xs ds) {i : List Int} {p : PV} (hp : ds.lookup i = some p) : ∃ a v, atKey xs i = some (a, v) ∧ R c fz v p :=
  h.ind (P := fun xs ds => ds.lookup i = some p → ∃ a v, atKey xs i = some (a, v) ∧ R c fz v p) (fun e => nomatch e) (fun {k a v q xs ds} r _ ih e => lookup_case e (fun (h1 : i = k) (h2 : q = p) => ⟨a, v, by rw [h1]; exact atKey_hit, h2 ▸ r⟩) fun h1 h2 => (ih h2).imp fun _ q => q.imp fun _ q => ⟨(atKey_miss h1).trans q.1, q.2⟩) hp
theorem RD.none {xs : List (List Int × Addr × Value)} {ds : List (List Int × PV)} (h : RD c fz xs ds) {i : List Int} (hp : ds.lookup i = none) : atKey xs i = none :=
  h.ind (P := fun xs ds => ds.lookup i = Option.none → atKey xs i = Option.none) (fun _ => rfl) (fun {k a v p xs ds} _ _ ih e => by
    by_cases hx : i = k
    · exact ns e (lookup_hit (p := (k, p)) hx)
    · exact (atKey_miss hx).trans (ih ((lookup_ne (p := (k, p)) hx).symm.trans e))) hp
theorem RD.append {xs ys : List (List Int × Addr × Value)} {ds es : List (List Int × PV)} (h : RD c fz xs ds) (h' : RD c fz ys es) : RD c fz (xs ++ ys) (ds ++ es) := h.ind (P := fun xs ds => RD c fz (xs ++ ys) (ds ++ es)) h' fun a _ i => .cons a i
theorem dictOfH {h : Heap} {d : Addr} {es : Array DictEntry} {n : Nat} {xs : List (List Int × Addr × Value)} (H : ∀ b o, fz b = some o → h.get? b = some o) (ho : h.get? d = some (dO es n)) (he : es.toList = xs.map (entryOfKey c.tk))
    (hk : ∀ x ∈ xs, ∃ vs n, fz x.2.1 = some (tO vs n) ∧ ItemsAre (intKind c.prog c.w) x.1 vs) (hn : (xs.map (·.1)).Nodup) : h.DictOfH c.tk d xs :=
  ⟨_, es, n, ho, ⟨rfl, rfl, rfl⟩, rfl, he, fun x hx => let ⟨vs, m, p, q⟩ := hk x hx; ⟨_, vs.toArray, m, H _ _ p, rfl, rfl, q⟩, hn⟩
theorem Room.key {A : Around} {k : Nat} (h : Room A k) : c.tk.room A.in1 := tupleKind_room_in1 (Nat.lt_of_le_of_lt (Nat.add_le_add_left (by decide) _) h.u64)
theorem WO_set_dict {d : Addr} {ds : List (List Int × PV)} {i : List Int} {v : PV} {Q : PV → Mu → Prop} (hm : μ d = some (.dict ds)) (hi : ds.lookup i = none) (hl : ds.length ≤ 100000) (h : Q .none (μ.set d (.dict (ds ++ [(i, v)])))) :
    WO c k (t3 setNone) [.ptr d, .tuple (i.map .int), v] μ Q := fun A env sc ρ X fz s E vs rm ra S => by
  obtain ⟨x, y, z, rfl, r1, r2, r3⟩ := ra.inv3; (first | obtain rfl := r1.inv | obtain ⟨_, rfl⟩ := r1.inv | obtain ⟨_, _, _, rfl, _, _⟩ := r1.inv | obtain ⟨_, _, rfl, _⟩ := r1.inv | obtain ⟨_, rfl, _⟩ := r1.inv | obtain ⟨_, _, _, rfl, _, _, _, _, _⟩ := r1.inv | obtain ⟨_, _, _, _, rfl, _, _, _, _⟩ := r1.inv | obtain ⟨_, _, _, _, rfl, _, _, _, _, _⟩ := r1.inv | cases r1)
  obtain ⟨o, ho, rr, _⟩ := S.x.mu _ _ hm
  obtain ⟨_, _, _, rfl, hsys, he, hk, hn, rd⟩ := rr.inv
  rename_i es n xs
  obtain ⟨_, _, _, rfl, ha, ra'⟩ := r2.inv
  rename_i a us nu
  have hxl : xs.length = ds.length := by have := congrArg List.length rd.keys; simpa using this
  show wpAny _ A (setItem (.ref d) (.ref a) z >>= fun _ => pure Value.none) _ _ _
  refine wpAny_bind (wpAny_setItem_heap (knd := c.tk) (xs := xs) (k := i) rm.key ⟨_, us.toArray, nu, S.x.ef _ _ ha, rfl, rfl, intsKey ra'⟩ (dictOfH S.x.ef ho he hk hn) (fun h' hd hs => wpAny_pure ?_) (by rw [sizeLine_eq]; lia))
  rw [storedH_new (rd.none hi)] at hd
  obtain ⟨o', es', n', ho', ⟨e1, e2, e3⟩, hdat, he', _, hn'⟩ := hd
  obtain ⟨oc, od, odt, os⟩ := o'
  simp only at e1 e2 e3 hdat
  subst e1 e2 e3 hdat
  refine ⟨_, _, fz, h, .none, .refl _, S.putμ (s' := { s with heap := h', toks := s.toks + c.tk.draws i }) (o := dO es' n') hm rfl rfl (fun b o hb e => (hs.2 b hb).trans e) ho' (.dict hsys he' (fun x hx => ?_) hn' (rd.append (.cons r3 .nil)))⟩
  rcases List.mem_append.mp hx with hx | hx
  · exact hk x hx
  · rw [List.mem_singleton] at hx; subst hx; exact ⟨us, nu, ha, intsKey ra'⟩
theorem WO_get_dict {ds : List (List Int × PV)} {i : List Int} {v : PV} {Q : PV → Mu → Prop} (hv : ds.lookup i = some v) (h : Q v μ) : WO c k (t2 getItem) [.dict ds, .tuple (i.map .int)] μ Q := fun A env sc ρ X fz s E vs rm ra S => by
  obtain ⟨x, y, rfl, r1, r2⟩ := ra.inv2
  obtain ⟨_, _, _, _, rfl, ha, hsys, he, hk, hn, rd⟩ := r1.inv
  obtain ⟨_, _, _, rfl, hb, ra'⟩ := r2.inv
  obtain ⟨b, w, hat, rw'⟩ := rd.get hv
  exact wpAny_getItem_heap (knd := c.tk) (k := i) rm.key ⟨_, _, _, S.x.ef _ _ hb, rfl, rfl, intsKey ra'⟩ (dictOfH S.x.ef (S.x.ef _ _ ha) he hk hn) hat ((S.toks _).pe rw' h)
theorem WO_get_ptrd {d : Addr} {ds : List (List Int × PV)} {i : List Int} {v : PV} {Q : PV → Mu → Prop} (hm : μ d = some (.dict ds)) (hv : ds.lookup i = some v) (h : Q v μ) : WO c k (t2 getItem) [.ptr d, .tuple (i.map .int)] μ Q := fun A env sc ρ X fz s E vs rm ra S => by
  obtain ⟨x, y, rfl, r1, r2⟩ := ra.inv2; (first | obtain rfl := r1.inv | obtain ⟨_, rfl⟩ := r1.inv | obtain ⟨_, _, _, rfl, _, _⟩ := r1.inv | obtain ⟨_, _, rfl, _⟩ := r1.inv | obtain ⟨_, rfl, _⟩ := r1.inv | obtain ⟨_, _, _, rfl, _, _, _, _, _⟩ := r1.inv | obtain ⟨_, _, _, _, rfl, _, _, _, _⟩ := r1.inv | obtain ⟨_, _, _, _, rfl, _, _, _, _, _⟩ := r1.inv | cases r1)
  obtain ⟨o, ho, rr, _⟩ := S.x.mu _ _ hm
  obtain ⟨_, _, _, rfl, hsys, he, hk, hn, rd⟩ := rr.inv
  obtain ⟨_, _, _, rfl, hb, ra'⟩ := r2.inv
  obtain ⟨b, w, hat, rw'⟩ := rd.get hv
  exact wpAny_getItem_heap (knd := c.tk) (k := i) rm.key ⟨_, _, _, S.x.ef _ _ hb, rfl, rfl, intsKey ra'⟩ (dictOfH S.x.ef ho he hk hn) hat ((S.toks _).pe rw' h)

noncomputable def FrzD (c : Cx) (d : Addr) (ds : List (List Int × PV)) (p p' : PV) : Prop := p' = p ∨ (p = .ptr d ∧ p' = .dict ds)
noncomputable abbrev FrzRD (c : Cx) (d : Addr) (ds : List (List Int × PV)) (ρ : Rho) : Rho → Prop := FR (FrzD c d ds) ρ
theorem WSs_frzD {d : Addr} {ds : List (List Int × PV)} (ρ' : Rho) {st : List Stmt} {Q : PPost} (hm : μ d = some (.dict ds)) (hρ : FrzRD c d ds ρ ρ') (h : WSs c k sc ρ' (μ.del d) st Q) : WSs c k sc ρ μ st Q := fun A env X fz s E rm S => by
  obtain ⟨o, ho, ro, z1, z2⟩ := S.x.mu d _ hm
  obtain ⟨_, _, _, rfl, hsys, he, hk, hn, rd⟩ := ro.inv
  rename_i es n xs
  have hS := S.freeze hm ho
  have le := Led.le_add (f := fz) (a := d) (o := dO es n) z2
  have key : ∀ {v p p'}, FrzD c d ds p p' → R c fz v p → R c (fz.add d (dO es n)) v p' := fun {v p p'} f r => by
    rcases f with rfl | ⟨rfl, rfl⟩
    · exact r.mono le
    · obtain rfl := r.inv
      exact .dict (Led.add_self ..) hsys he (fun x hx => (hk x hx).imp fun _ p => p.imp fun _ p => ⟨le _ _ p.1, p.2⟩) hn (rd.mono le)
  exact upS le (h A env X _ s E rm (S.swapR hS fun x p' q => (hρ.at q).imp fun p z => ⟨z.1, fun r h => key z.2 h⟩))

inductive KI (c : Cx) (k : Nat) (sc : SC) (ρi : Rho) (x : Str) (t elt : Expr) (Q : List PV → Mu → Prop) (v : PV) (μ₁ : Mu) : Prop
  | mk (items : List PV) (Inv : Nat → List PV → Mu → Prop) : Items v = some items → items.length ≤ 1000000 → Inv 0 [] μ₁ →
      (∀ i p rs μ', items[i]? = some p → Inv i rs μ' → WT c k sc (ρi.set x p) μ' t (kTst c k sc (ρi.set x p) elt Inv i rs)) → (∀ rs μ', Inv items.length rs μ' → Q rs μ') → KI c k sc ρi x t elt Q v μ₁
theorem WE_CompIf {elt iter t : Expr} {x : Str} {px pos : Pos} {scope : Scope} {Q : PV → Mu → Prop} (ρi : Rho)
    (hc : compOk scope sc.scope = true) (hns : notSet iter = true) (hρ : FrC sc.scope scope ρ ρi) {kd : NameKind} (hx : (innerSC scope sc).scope.names.lookup x = some kd) (h3 : kd = .local ∨ (kd = .cell ∧ x ∈ ownOf scope))
    (h : WE c k sc ρ μ iter (KI c k (innerSC scope sc) ρi x t elt (fun rs μ' => Q (.list rs) μ'))) :
    WE c k sc ρ μ (.ListComp elt [⟨.Name x px, iter, [t], 0⟩] scope pos) Q := fun A env X fz s E rm S => by
  rw [eval_ListComp]
  refine comp_coreG hc hns hρ hx h3 S rm (h.mono fun v μ₁ ⟨items, Inv, h1, h2, h3, h4, h5⟩ => ⟨items, Inv, h1, h2, h3, fun i p rs μ' hp hi => WI_one (h4 i p rs μ' hp hi), fun rs μ' hi fz' C acc s' B => ?_⟩)
  refine ⟨_, B.ns.choose_spec, fun h' hs => ?_⟩
  exact ⟨_, μ', fz', h5 rs μ' hi, B.r, B.le, B.S.keepNe rfl rfl (fun b o hb e => (hs.2 b hb).trans e) B.x B.f B.m B.l B.o⟩
end
noncomputable def stAt (i : Nat) : Stmt := (PySem.Challenge.pw_ok0150_01.main.body[i]?).getD (.Pass { line := 0, col := 0, endLine := 0, endCol := 0 })
noncomputable def stParts : Stmt → List Stmt × Scope × Expr
  | .FunctionDef _ _ b _ _ _ s .. => (b, s, .Tuple [] 0 { line := 0, col := 0, endLine := 0, endCol := 0 })
  | .ClassDef _ _ _ b _ _ s .. => (b, s, .Tuple [] 0 { line := 0, col := 0, endLine := 0, endCol := 0 })
  | .If t _ _ _ => ([], { kind := .module, names := [], isGenerator := false, isCoroutine := false, more := [] }, t)
  | _ => ([], { kind := .module, names := [], isGenerator := false, isCoroutine := false, more := [] }, .Tuple [] 0 { line := 0, col := 0, endLine := 0, endCol := 0 })
noncomputable def fBody (st : Stmt) : List Stmt := (stParts st).1
noncomputable def fScope (st : Stmt) : Scope := (stParts st).2.1
noncomputable def testOf (st : Stmt) : Expr := (stParts st).2.2
noncomputable def mAt (i j : Nat) : Stmt := ((fBody (stAt i))[j]?).getD (stAt 0)
noncomputable abbrev FnD (c : Cx) (st : Stmt) (fv : Addr) (names : List Str) : Prop := Fn c fv names (fBody st) (fScope st)
noncomputable abbrev scD (st : Stmt) : SC := ⟨fScope st, ownOf (fScope st)⟩
noncomputable def fdAt (K : Frag) (a : Addr) : FuncData := match K.lookup a with
  | some ⟨_, _, .func fd, _⟩ => fd
  | _ => default
structure FnK (K : Frag) (a : Addr) (names : List Str) (st : Stmt) : Prop where
  is : (K.lookup a).map (·.data) = some (.func (fdAt K a))
  ok : (codeIn K (fdAt K a).code (fdAt K a).qualname && (fdAt K a).globals == mainGlobals && (fdAt K a).builtins == builtinsNs && (fdAt K a).closure.isEmpty) = true
  body : (fdAt K a).body = .stmts (fBody st)
  scope : (fdAt K a).scope = fScope st
  bind : ∀ vs : List Value, vs.length = names.length → bindArgs (fdAt K a) ⟨vs, []⟩ = pure (names.zip vs)
theorem fn_of {c : Cx} (X : c.K.In c.h₀) {a : Addr} {names : List Str} {st : Stmt} (k : FnK c.K a names st) : FnD c st a names := by
  obtain ⟨h1, h2, h3, h4, h5⟩ := k
  obtain ⟨o, ho, hd⟩ := Option.map_eq_some_iff.mp h1
  simp only [Bool.and_eq_true, beq_iff_eq, List.isEmpty_iff] at h2
  exact ⟨o, _, X _ _ ho, hd, codeRec_of X h2.1.1.1, h3, h4, h2.1.1.2, h2.1.2, h2.2, h5⟩
theorem ar0 {P : List Value → Prop} (h : P []) (vs : List Value) (e : vs.length = 0) : P vs := by
  rw [List.length_eq_zero_iff.mp e]; exact h
theorem arS {P : List Value → Prop} {n : Nat} (h : ∀ a, ∀ vs : List Value, vs.length = n → P (a :: vs)) (vs : List Value) (e : vs.length = n + 1) : P vs := by
  cases vs with
  | nil => cases e
  | cons a vs => exact h a vs (Nat.succ.inj e)
noncomputable def fTab : List (Str × Addr × Stmt × List Str) :=
  ("clamped", 21, stAt 1, ["number", "most"]) ::
  ("put_block", 28, stAt 2, ["plane", "x", "y", "block", "n", "centre", "most"]) ::
  ("blank", 75, stAt 6, ["width", "height", "value"]) ::
  ("dequantise", 80, stAt 8, ["row", "qtable"]) ::
  ("descaled", 87, stAt 15, ["number", "bits"]) ::
  ("picked", 289, stAt 45, ["n"]) ::
  ("inverse", 296, stAt 46, ["block", "n"]) ::
  ("zigzag_places", 303, stAt 48, ["n"]) ::
  ("order", 528, stAt 50, ["n"]) ::
  ("to_block", 535, stAt 51, ["row", "n"]) ::
  ("sample_block", 542, stAt 53, ["row", "qtable", "n"]) ::
  ("plane_of", 549, stAt 54, ["frame", "grid", "place", "qtable"]) ::
  ("added", 554, stAt 56, ["reference", "rows", "most"]) ::
  ("told_differences", 559, stAt 57, ["frame", "grid", "place", "qtable"]) ::
  ("between", 566, stAt 59, ["one", "other"]) ::
  ("twice", 573, stAt 60, ["samples", "size"]) ::
  ("expanded_across", 578, stAt 61, ["rows", "width"]) ::
  ("expanded_down", 583, stAt 62, ["rows", "height"]) ::
  ("expanded", 588, stAt 63, ["plane", "across", "down", "width", "height"]) ::
  ("write_expand", 595, stAt 65, ["across", "down"]) ::
  ("read_expand", 602, stAt 66, ["payload"]) ::
  ("first_planes", 607, stAt 67, ["frame", "grid", "quant"]) ::
  ("expanded_planes", 614, stAt 68, ["planes", "across", "down", "frame"]) ::
  ("next_planes", 621, stAt 69, ["reference", "frame", "grid", "quant"]) ::
  ("parts", 628, stAt 71, ["many", "size"]) ::
  ("_law_begin", 755, stAt 77, ["script"]) ::
  ("_law_next", 762, stAt 78, ["pool", "many"]) ::
  ("_law_filled", 767, stAt 79, ["pool", "frame", "side"]) ::
  ("_law_meant", 772, stAt 80, ["row", "divisors", "side"]) ::
  ("_law_drawn", 779, stAt 81, ["rows", "place", "width", "height", "divisors", "side"]) ::
  ("_law_longer", 786, stAt 82, ["line", "size"]) ::
  ("_law_reference", 791, stAt 83, ["rows", "across", "down", "width", "height"]) ::
  ("_law_held", 798, stAt 84, ["number", "most"]) ::
  ("_law_octet_right", 805, stAt 85, ["octet"]) ::
  ("law", 810, stAt 86, ["script"]) :: []
noncomputable def mTab : List (Addr × Str × Addr × Stmt × List Str) :=
  (59, "__init__", 42, mAt 4 0, ["self", "width", "height", "rows"]) ::
  (206, "inverse", 196, mAt 38 1, ["self", "block"]) ::
  (206, "sums", 203, mAt 38 2, ["self", "block"]) ::
  (234, "inverse", 231, mAt 39 1, ["self", "block"]) ::
  (645, "__init__", 642, mAt 72 0, ["self", "ident", "across", "down", "quant"]) ::
  (711, "__init__", 663, mAt 73 0, ["self", "kind", "precision", "height", "width", "components", "n"]) ::
  (711, "most_across", 668, mAt 73 1, ["self"]) ::
  (711, "most_down", 673, mAt 73 2, ["self"]) ::
  (711, "mcus_across", 680, mAt 73 3, ["self"]) ::
  (711, "mcus_down", 687, mAt 73 4, ["self"]) ::
  (711, "plane_size", 694, mAt 73 5, ["self", "place"]) ::
  (711, "blocks", 701, mAt 73 6, ["self", "place"]) ::
  (711, "padded", 708, mAt 73 7, ["self", "place"]) ::
  (744, "__init__", 727, mAt 75 0, ["self", "frame"]) ::
  (744, "get", 734, mAt 75 1, ["self", "place", "x", "y"]) ::
  (744, "put", 741, mAt 75 2, ["self", "place", "x", "y", "row"]) :: []
noncomputable def gTab : List (Str × Addr) := ("Plane", 59) :: ("TwoDct", 206) :: ("OneDct", 234) :: ("Component", 645) :: ("Frame", 711) :: ("Grid", 744) :: ("SegmentError", 268) :: []
noncomputable def bTab : List (Str × Value) := ("len", .builtin "len") :: ("range", .type "range") :: ("max", .builtin "max") :: ("min", .builtin "min") :: ("tuple", .type "tuple") :: ("list", .type "list") :: ("int", .type "int") :: ("bytes", .type "bytes") :: ("Exception", .type "Exception") :: []
noncomputable def aTab : List (Addr × Str) := (59, "width") :: (59, "height") :: (59, "rows") :: (645, "ident") :: (645, "across") :: (645, "down") :: (645, "quant") :: (711, "kind") :: (711, "precision") :: (711, "height") :: (711, "width") :: (711, "components") :: (711, "n") :: (744, "many") :: (744, "planes") :: (268, "message") :: []
noncomputable def FsOk (K : Frag) : List (Str × Addr × Stmt × List Str) → Prop
  | [] => True
  | r :: l => FnK K r.2.1 r.2.2.2 r.2.2.1 ∧ FsOk K l
noncomputable def MsOk (K : Frag) : List (Addr × Str × Addr × Stmt × List Str) → Prop
  | [] => True
  | r :: l => FnK K r.2.2.1 r.2.2.2.2 r.2.2.2.1 ∧ MsOk K l
theorem FsOk.mem {K : Frag} {r : Str × Addr × Stmt × List Str} {l : List (Str × Addr × Stmt × List Str)} (h : FsOk K l) (m : r ∈ l) : FnK K r.2.1 r.2.2.2 r.2.2.1 := by
  induction l with
  | nil => exact absurd m List.not_mem_nil
  | cons x l ih => exact (List.mem_cons.mp m).elim (fun e => e ▸ h.1) (ih h.2)
theorem MsOk.mem {K : Frag} {r : Addr × Str × Addr × Stmt × List Str} {l : List (Addr × Str × Addr × Stmt × List Str)} (h : MsOk K l) (m : r ∈ l) : FnK K r.2.2.1 r.2.2.2.2 r.2.2.2.1 := by
  induction l with
  | nil => exact absurd m List.not_mem_nil
  | cons x l ih => exact (List.mem_cons.mp m).elim (fun e => e ▸ h.1) (ih h.2)
theorem all_at {α : Type} {p : α → Bool} {l : List α} (h : l.all p = true) (i : Nat) {r : α} (e : l[i]? = some r) : p r = true := List.all_eq_true.mp h r (List.mem_of_getElem? e)
noncomputable def slAt (K : Frag) (a i : Nat) : Option Value := ((K.lookup a).bind fun o => o.slots[i]?).join
noncomputable def cdAt (K : Frag) (a : Nat) : ClassData := match K.lookup a with
  | some ⟨_, _, .cls cd, _⟩ => cd
  | _ => { name := "", bases := [], mro := [], ns := 0, qualname := "" }
structure KOk (K : Frag) : Prop where
  n : (bTab.all fun x => nsIn K mainGlobals x.1 == some none) = true
  h : (fTab.all fun r => nsIn K mainGlobals r.1 == some (some (.ref r.2.1))) = true
  g : (gTab.all fun x => nsIn K mainGlobals x.1 == some (some (.ref x.2))) = true
  f : FsOk K fTab
  m : MsOk K mTab
  e : (mTab.all fun r => findIn K (.ref r.1) r.2.1 == some (some (.ref r.2.2.1)) && typeIn K (.ref r.2.2.1) == some (.type "function")) = true
  c : ([59, 206, 234, 645, 711, 744].all fun C => keepIn K (.ref C) && makesIn K C && plainGet K C "") = true
  d : ([59, 645, 711, 744].all fun C => hasDictIn K C && plainOver K C && findIn K (.ref C) "__setattr__" == some (some (.builtin "object.__setattr__"))) = true
  a : (aTab.all fun x => findIn K (.ref x.1) x.2 == some none) = true
  i : ([206, 234].all fun C => findIn K (.ref C) "__init__" == some (some (.builtin "object.__init__"))) = true
  s : (keepIn K (.ref 268) && findIn K (.ref 268) "__init__" == some (some (.ref 252)) && typeIn K (.ref 252) == some (.type "function") && findIn K (.ref 268) "__setattr__" == some (some (.builtin "object.__setattr__"))) = true
  x : K.lookup 268 = some (excClassObj (cdAt K 268).name (cdAt K 268).qualname 268 (cdAt K 268).ns (cdAt K 268).bases (.ref 255 :: [.type "Exception", .type "BaseException", .type "object"]) true (cdAt K 268).slotNames (cdAt K 268).subclasses (cdAt K 268).abstract (cdAt K 268).collection ((K.lookup 268).bind (·.dict)) (slAt K 268 0) (slAt K 268 1) (slAt K 268 2) (slAt K 268 3) (slAt K 268 5) "Exception.__new__")
  sF : FnK K 252 ["self", "message"] (mAt 41 0)
structure Pg (c : Cx) : Prop where
  ok : CxOk c
  k : KOk c.K
theorem taker_none {K : Frag} {C : Addr} {x : Str} (e : findIn K (.ref C) x = some none) : takerIn K C x = some none := by
  unfold takerIn; rw [e]; rfl
noncomputable abbrev kMo (c : Cx) (k : Nat) (f : Value) (o : PV) (Q : PV → Mu → Prop) : List PV → Mu → Prop := fun ps μ₂ => WO c k (cl f) (o :: ps) μ₂ Q
noncomputable abbrev kM (c : Cx) (k : Nat) (sc : SC) (ρ : Rho) (cls name : Str) (f : Value) (es : List Expr) (Q : PV → Mu → Prop) : PV → Mu → Prop := fun o μ₁ => ∃ fs, Fields μ₁ o = some (cls, fs) ∧ fs.lookup name = none ∧ WEs c k sc ρ μ₁ es (kMo c k f o Q)
namespace Pg
section
variable {c : Cx} {k : Nat} {sc : SC} {ρ : Rho} {μ : Mu} {Q : PV → Mu → Prop} {p pos apos : Pos} {es : List Expr} {oe : Expr}
theorem glob (pg : Pg c) (i : Nat) {x : Str} {a : Addr} (e : gTab[i]? = some (x, a)) : c.mg x = some (.ref a) := mg_of pg.ok.X pg.ok.g (beq_iff_eq.mp (all_at pg.k.g i e))
theorem bltin (pg : Pg c) {p : Str × Value} (h : p ∈ bTab) : Glob' c p.1 p.2 := by
  have e : (bTab.all fun p => bootBuiltins p.1 == some p.2 && !(p.1 == ("__name__" : Str))) = true := by kernel_rfl
  have e1 := List.all_eq_true.mp e p h
  simp only [Bool.and_eq_true, beq_iff_eq, Bool.not_eq_true', beq_eq_false_iff_ne] at e1
  exact .inr ⟨ns_none_of pg.ok.X pg.ok.g (beq_iff_eq.mp (List.all_eq_true.mp pg.k.n p h)), by rw [pg.ok.blt _ e1.2]; exact e1.1⟩
theorem fnM (pg : Pg c) {r : Str × Addr × Stmt × List Str} (h : r ∈ fTab) : FnD c r.2.2.1 r.2.1 r.2.2.2 := fn_of pg.ok.X (pg.k.f.mem h)
theorem fn (pg : Pg c) (i : Nat) {x : Str} {a : Addr} {st : Stmt} {names : List Str} (e : fTab[i]? = some (x, a, st, names)) : FnD c st a names := pg.fnM (List.mem_of_getElem? e)
theorem fnG (pg : Pg c) {r : Str × Addr × Stmt × List Str} (h : r ∈ fTab) : c.mg r.1 = some (.ref r.2.1) := mg_of pg.ok.X pg.ok.g (beq_iff_eq.mp (List.all_eq_true.mp pg.k.h r h))
theorem mt (pg : Pg c) (i : Nat) {C : Addr} {x : Str} {a : Addr} {st : Stmt} {names : List Str} (e : mTab[i]? = some (C, x, a, st, names)) : FnD c st a names := fn_of pg.ok.X (pg.k.m.mem (List.mem_of_getElem? e))
theorem mfind (pg : Pg c) (i : Nat) {C : Addr} {x : Str} {a : Addr} {st : Stmt} {names : List Str} (e : mTab[i]? = some (C, x, a, st, names)) : findIn c.K (.ref C) x = some (some (.ref a)) ∧ typeIn c.K (.ref a) = some (.type "function") := by
  have := all_at pg.k.e i e
  simpa only [Bool.and_eq_true, beq_iff_eq] using this
theorem clsOk (pg : Pg c) (i : Nat) {C : Addr} (e : ([59, 206, 234, 645, 711, 744] : List Addr)[i]? = some C) : keepIn c.K (.ref C) = true ∧ makesIn c.K C = true ∧ plainGet c.K C "" = true := by
  have := all_at pg.k.c i e
  simpa only [Bool.and_eq_true, and_assoc] using this
theorem dctOk (pg : Pg c) (i : Nat) {C : Addr} (e : ([59, 645, 711, 744] : List Addr)[i]? = some C) : hasDictIn c.K C = true ∧ plainOver c.K C = true ∧ findIn c.K (.ref C) "__setattr__" = some (some (.builtin "object.__setattr__")) := by
  have := all_at pg.k.d i e
  simpa only [Bool.and_eq_true, and_assoc, beq_iff_eq] using this
theorem atOk (pg : Pg c) (i : Nat) {C : Addr} {x : Str} (e : aTab[i]? = some (C, x)) : findIn c.K (.ref C) x = some none := beq_iff_eq.mp (all_at pg.k.a i e)
theorem iniOk (pg : Pg c) (i : Nat) {C : Addr} (e : ([206, 234] : List Addr)[i]? = some C) : findIn c.K (.ref C) "__init__" = some (some (.builtin "object.__init__")) := beq_iff_eq.mp (all_at pg.k.i i e)
theorem plainA (pg : Pg c) (g j d a : Nat) {cls attr : Str} {C : Addr} (e1 : gTab[g]? = some (cls, C)) (e2 : ([59, 206, 234, 645, 711, 744] : List Addr)[j]? = some C) (e3 : ([59, 645, 711, 744] : List Addr)[d]? = some C) (e4 : aTab[a]? = some (C, attr)) : Plain c cls attr :=
  ⟨C, pg.glob g e1, (pg.clsOk j e2).2.2, (pg.dctOk d e3).1, pg.atOk a e4⟩
theorem setA (pg : Pg c) (g d a : Nat) {cls attr : Str} {C : Addr} (e1 : gTab[g]? = some (cls, C)) (e3 : ([59, 645, 711, 744] : List Addr)[d]? = some C) (e4 : aTab[a]? = some (C, attr)) : SetA c cls attr :=
  ⟨C, pg.glob g e1, (pg.dctOk d e3).2.2, (pg.dctOk d e3).2.1, taker_none (pg.atOk a e4), (pg.dctOk d e3).1⟩
theorem methA (pg : Pg c) (g j m : Nat) {cls : Str} {C : Addr} {x : Str} {a : Addr} {st : Stmt} {names : List Str} (e1 : gTab[g]? = some (cls, C)) (e2 : ([59, 206, 234, 645, 711, 744] : List Addr)[j]? = some C) (e3 : mTab[m]? = some (C, x, a, st, names)) : MethOf c cls x a :=
  ⟨C, pg.glob g e1, (pg.clsOk j e2).2.2, (pg.mfind m e3).1, (pg.mfind m e3).2⟩
noncomputable def callOk (sc : SC) (x : Str) (es : List Expr) : Bool := decide (sc.scope.names.lookup x = some .globalImplicit) && !(x == ("__debug__" : Str)) && es.all notStar
noncomputable def calleeOf (sc : SC) (x : Str) (es : List Expr) : Option Value := match callOk sc x es with
  | true => (match fTab.find? (fun r => r.1 == x) with | some r => some (.ref r.2.1) | none => (bTab.find? (fun r => r.1 == x)).map (·.2))
  | false => none
theorem callee_bt {p : Str × Value} (h : p ∈ bTab) : Callee c p.2 := by
  have e : (bTab.all fun p => match p.2 with | .builtin _ => true | .type _ => true | _ => false) = true := rfl
  have e1 := List.all_eq_true.mp e p h
  obtain ⟨x, v⟩ := p
  cases v <;> first | exact callee_builtin _ | exact callee_type _ | cases e1
theorem callT (pg : Pg c) {x : Str} {v : Value} (h : calleeOf sc x es = some v) (hq : WEs c k sc ρ μ es (kCall c k v Q)) : WE c k sc ρ μ (.Call (.Name x p) es [] pos) Q := by
  unfold calleeOf at h
  cases q : callOk sc x es with
  | false => rw [q] at h; cases h
  | true =>
    rw [q] at h
    have main : Glob' c x v ∧ Callee c v := by
      cases q2 : fTab.find? (fun r => r.1 == x) with
      | some r =>
        simp only [q2] at h
        cases h
        have e := List.find?_some q2
        rw [← beq_iff_eq.mp e]
        exact ⟨.inl (pg.fnG (List.mem_of_find?_eq_some q2)), callee_fn (pg.fnM (List.mem_of_find?_eq_some q2))⟩
      | none =>
        simp only [q2] at h
        obtain ⟨r, hr, rfl⟩ := Option.map_eq_some_iff.mp h
        have e := List.find?_some hr
        rw [← beq_iff_eq.mp e]
        exact ⟨pg.bltin (List.mem_of_find?_eq_some hr), callee_bt (List.mem_of_find?_eq_some hr)⟩
    unfold callOk at q
    simp only [Bool.and_eq_true, decide_eq_true_eq, Bool.not_eq_true'] at q
    exact WE_CallN pg.ok q.1.1 main.1 q.1.2 main.2 q.2 hq
theorem methI (pg : Pg c) {name cls : Str} {f : Addr} {names : List Str} {st : Stmt} (F : FnD c st f names) (hm : MethOf c cls name f) (hn : notCall oe = true ∨ ∃ x p y q, oe = .Call (.Name x p) [y] [] q) (hp : (apos.endLine == pos.line) = true) (hes : es.all notStar = true) (hlen : es.length < 30)
    (hq : WE c k sc ρ μ oe (kM c k sc ρ cls name (.ref f) es Q)) : WE c k sc ρ μ (.Call (.Attribute oe name apos) es [] pos) Q :=
  WE_CallM hn hp (callee_fn F) hes hlen (hq.mono fun o μ₁ ⟨fs, h1, h2, h3⟩ => ⟨[o], meth_inst pg.ok h1 h2 hm, h3⟩)
noncomputable def methLk (cls name : Str) : Option Addr := (gTab.find? (fun g => g.1 == cls)).bind fun g => (mTab.find? (fun r => r.1 == g.2 && r.2.1 == name)).map (·.2.2.1)
noncomputable def isMeth (name : Str) : Bool := mTab.any fun r => r.2.1 == name
noncomputable abbrev kMT (c : Cx) (k : Nat) (sc : SC) (ρ : Rho) (name : Str) (es : List Expr) (Q : PV → Mu → Prop) : PV → Mu → Prop := fun o μ₁ => ∃ cls fs f, Fields μ₁ o = some (cls, fs) ∧ fs.lookup name = none ∧ methLk cls name = some f ∧ WEs c k sc ρ μ₁ es (kMo c k (.ref f) o Q)
noncomputable def methOk (oe : Expr) (apos pos : Pos) (es : List Expr) : Bool := notCall oe && (apos.endLine == pos.line) && es.all notStar && decide (es.length < 30)
theorem methT (pg : Pg c) {name : Str} (h : (methOk oe apos pos es && isMeth name) = true) (hq : WE c k sc ρ μ oe (kMT c k sc ρ name es Q)) : WE c k sc ρ μ (.Call (.Attribute oe name apos) es [] pos) Q := by
  unfold methOk at h
  simp only [Bool.and_eq_true, decide_eq_true_eq] at h
  refine WE_CallMv (.inl h.1.1.1.1) h.1.1.1.2 h.1.1.2 h.1.2 (hq.mono fun o μ₁ ⟨cls, fs, f, h1, h2, h3, h4⟩ => ?_)
  obtain ⟨g, hg, h3⟩ := Option.bind_eq_some_iff.mp h3
  obtain ⟨r, hr, rfl⟩ := Option.map_eq_some_iff.mp h3
  have e1 := List.find?_some hr
  simp only [Bool.and_eq_true, beq_iff_eq] at e1
  have hm : r ∈ mTab := List.mem_of_find?_eq_some hr
  have e2 := List.all_eq_true.mp pg.k.e r hm
  simp only [Bool.and_eq_true, beq_iff_eq] at e2
  have e3 : c.mg cls = some (.ref g.2) := by
    have e := List.find?_some hg
    rw [← beq_iff_eq.mp e]
    exact mg_of pg.ok.X pg.ok.g (beq_iff_eq.mp (List.all_eq_true.mp pg.k.g g (List.mem_of_find?_eq_some hg)))
  have e5 : (mTab.all fun r => ([59, 206, 234, 645, 711, 744] : List Addr).contains r.1) = true := rfl
  have e6 := List.all_eq_true.mp e5 r hm
  have e4 := List.all_eq_true.mp pg.k.c r.1 (List.contains_iff_mem.mp e6)
  simp only [Bool.and_eq_true] at e4
  refine ⟨.ref r.2.2.1, [o], callee_fn (fn_of pg.ok.X (pg.k.m.mem hm)), meth_inst pg.ok h1 h2 ⟨g.2, e3, ?_, ?_, e2.2⟩, h4⟩
  · rw [← e1.1]; exact e4.2
  · rw [← e1.1, ← e1.2]; exact e2.1
noncomputable def attrLk (cls attr : Str) : Bool := match gTab.find? (fun g => g.1 == cls) with
  | some g => ([59, 645, 711, 744] : List Addr).contains g.2 && aTab.contains (g.2, attr)
  | none => false
theorem plainT (pg : Pg c) {cls attr : Str} (h : attrLk cls attr = true) : Plain c cls attr := by
  unfold attrLk at h
  cases q : gTab.find? (fun g => g.1 == cls) with
  | none => rw [q] at h; cases h
  | some g =>
    simp only [q, Bool.and_eq_true, List.contains_iff_mem] at h
    have e3 : c.mg cls = some (.ref g.2) := by
      have e := List.find?_some q
      rw [← beq_iff_eq.mp e]
      exact mg_of pg.ok.X pg.ok.g (beq_iff_eq.mp (List.all_eq_true.mp pg.k.g g (List.mem_of_find?_eq_some q)))
    have e5 := List.all_eq_true.mp pg.k.d g.2 h.1
    simp only [Bool.and_eq_true] at e5
    have e6 : g.2 ∈ ([59, 206, 234, 645, 711, 744] : List Addr) := by
      have := h.1
      simp only [List.mem_cons, List.not_mem_nil, or_false] at this
      rcases this with e | e | e | e <;> rw [e] <;> decide
    have e4 := List.all_eq_true.mp pg.k.c g.2 e6
    simp only [Bool.and_eq_true] at e4
    exact ⟨g.2, e3, e4.2, e5.1.1, beq_iff_eq.mp (List.all_eq_true.mp pg.k.a _ h.2)⟩
theorem F1 (pg : Pg c) : FnD c (stAt 1) 21 ["number", "most"] := pg.fn 0 rfl
theorem F2 (pg : Pg c) : FnD c (stAt 2) 28 ["plane", "x", "y", "block", "n", "centre", "most"] := pg.fn 1 rfl
theorem F6 (pg : Pg c) : FnD c (stAt 6) 75 ["width", "height", "value"] := pg.fn 2 rfl
theorem F8 (pg : Pg c) : FnD c (stAt 8) 80 ["row", "qtable"] := pg.fn 3 rfl
theorem F15 (pg : Pg c) : FnD c (stAt 15) 87 ["number", "bits"] := pg.fn 4 rfl
theorem F45 (pg : Pg c) : FnD c (stAt 45) 289 ["n"] := pg.fn 5 rfl
theorem F46 (pg : Pg c) : FnD c (stAt 46) 296 ["block", "n"] := pg.fn 6 rfl
theorem g48 (pg : Pg c) : Glob' c "zigzag_places" (.ref 303) := .inl (pg.fnG (r := ("zigzag_places", 303, stAt 48, ["n"])) (List.mem_of_getElem? (i := 7) rfl))
theorem F48 (pg : Pg c) : FnD c (stAt 48) 303 ["n"] := pg.fn 7 rfl
theorem g50 (pg : Pg c) : Glob' c "order" (.ref 528) := .inl (pg.fnG (r := ("order", 528, stAt 50, ["n"])) (List.mem_of_getElem? (i := 8) rfl))
theorem F50 (pg : Pg c) : FnD c (stAt 50) 528 ["n"] := pg.fn 8 rfl
theorem F51 (pg : Pg c) : FnD c (stAt 51) 535 ["row", "n"] := pg.fn 9 rfl
theorem F53 (pg : Pg c) : FnD c (stAt 53) 542 ["row", "qtable", "n"] := pg.fn 10 rfl
theorem F54 (pg : Pg c) : FnD c (stAt 54) 549 ["frame", "grid", "place", "qtable"] := pg.fn 11 rfl
theorem F56 (pg : Pg c) : FnD c (stAt 56) 554 ["reference", "rows", "most"] := pg.fn 12 rfl
theorem F57 (pg : Pg c) : FnD c (stAt 57) 559 ["frame", "grid", "place", "qtable"] := pg.fn 13 rfl
theorem F59 (pg : Pg c) : FnD c (stAt 59) 566 ["one", "other"] := pg.fn 14 rfl
theorem F60 (pg : Pg c) : FnD c (stAt 60) 573 ["samples", "size"] := pg.fn 15 rfl
theorem g61 (pg : Pg c) : Glob' c "expanded_across" (.ref 578) := .inl (pg.fnG (r := ("expanded_across", 578, stAt 61, ["rows", "width"])) (List.mem_of_getElem? (i := 16) rfl))
theorem F61 (pg : Pg c) : FnD c (stAt 61) 578 ["rows", "width"] := pg.fn 16 rfl
theorem g62 (pg : Pg c) : Glob' c "expanded_down" (.ref 583) := .inl (pg.fnG (r := ("expanded_down", 583, stAt 62, ["rows", "height"])) (List.mem_of_getElem? (i := 17) rfl))
theorem F62 (pg : Pg c) : FnD c (stAt 62) 583 ["rows", "height"] := pg.fn 17 rfl
theorem F63 (pg : Pg c) : FnD c (stAt 63) 588 ["plane", "across", "down", "width", "height"] := pg.fn 18 rfl
theorem F65 (pg : Pg c) : FnD c (stAt 65) 595 ["across", "down"] := pg.fn 19 rfl
theorem g66 (pg : Pg c) : Glob' c "read_expand" (.ref 602) := .inl (pg.fnG (r := ("read_expand", 602, stAt 66, ["payload"])) (List.mem_of_getElem? (i := 20) rfl))
theorem F66 (pg : Pg c) : FnD c (stAt 66) 602 ["payload"] := pg.fn 20 rfl
theorem F67 (pg : Pg c) : FnD c (stAt 67) 607 ["frame", "grid", "quant"] := pg.fn 21 rfl
theorem F68 (pg : Pg c) : FnD c (stAt 68) 614 ["planes", "across", "down", "frame"] := pg.fn 22 rfl
theorem F69 (pg : Pg c) : FnD c (stAt 69) 621 ["reference", "frame", "grid", "quant"] := pg.fn 23 rfl
theorem F71 (pg : Pg c) : FnD c (stAt 71) 628 ["many", "size"] := pg.fn 24 rfl
theorem F77 (pg : Pg c) : FnD c (stAt 77) 755 ["script"] := pg.fn 25 rfl
theorem F78 (pg : Pg c) : FnD c (stAt 78) 762 ["pool", "many"] := pg.fn 26 rfl
theorem F79 (pg : Pg c) : FnD c (stAt 79) 767 ["pool", "frame", "side"] := pg.fn 27 rfl
theorem F80 (pg : Pg c) : FnD c (stAt 80) 772 ["row", "divisors", "side"] := pg.fn 28 rfl
theorem F81 (pg : Pg c) : FnD c (stAt 81) 779 ["rows", "place", "width", "height", "divisors", "side"] := pg.fn 29 rfl
theorem F82 (pg : Pg c) : FnD c (stAt 82) 786 ["line", "size"] := pg.fn 30 rfl
theorem F83 (pg : Pg c) : FnD c (stAt 83) 791 ["rows", "across", "down", "width", "height"] := pg.fn 31 rfl
theorem F84 (pg : Pg c) : FnD c (stAt 84) 798 ["number", "most"] := pg.fn 32 rfl
theorem g85 (pg : Pg c) : Glob' c "_law_octet_right" (.ref 805) := .inl (pg.fnG (r := ("_law_octet_right", 805, stAt 85, ["octet"])) (List.mem_of_getElem? (i := 33) rfl))
theorem F85 (pg : Pg c) : FnD c (stAt 85) 805 ["octet"] := pg.fn 33 rfl
theorem g86 (pg : Pg c) : Glob' c "law" (.ref 810) := .inl (pg.fnG (r := ("law", 810, stAt 86, ["script"])) (List.mem_of_getElem? (i := 34) rfl))
theorem F86 (pg : Pg c) : FnD c (stAt 86) 810 ["script"] := pg.fn 34 rfl
theorem n_len (pg : Pg c) : Glob' c "len" (.builtin "len") := pg.bltin (p := ("len", .builtin "len")) (List.mem_of_getElem? (i := 0) rfl)
theorem n_range (pg : Pg c) : Glob' c "range" (.type "range") := pg.bltin (p := ("range", .type "range")) (List.mem_of_getElem? (i := 1) rfl)
theorem n_max (pg : Pg c) : Glob' c "max" (.builtin "max") := pg.bltin (p := ("max", .builtin "max")) (List.mem_of_getElem? (i := 2) rfl)
theorem n_min (pg : Pg c) : Glob' c "min" (.builtin "min") := pg.bltin (p := ("min", .builtin "min")) (List.mem_of_getElem? (i := 3) rfl)
theorem n_tuple (pg : Pg c) : Glob' c "tuple" (.type "tuple") := pg.bltin (p := ("tuple", .type "tuple")) (List.mem_of_getElem? (i := 4) rfl)
theorem n_int (pg : Pg c) : Glob' c "int" (.type "int") := pg.bltin (p := ("int", .type "int")) (List.mem_of_getElem? (i := 6) rfl)
theorem n_Exception (pg : Pg c) : Glob' c "Exception" (.type "Exception") := pg.bltin (p := ("Exception", .type "Exception")) (List.mem_of_getElem? (i := 8) rfl)
theorem h4 (pg : Pg c) : c.mg "Plane" = some (.ref 59) := pg.glob 0 rfl
theorem k4 (pg : Pg c) : keepIn c.K (.ref 59) = true := (pg.clsOk 0 rfl).1
theorem m4 (pg : Pg c) : makesIn c.K 59 = true := (pg.clsOk 0 rfl).2.1
theorem G4_0 (pg : Pg c) : FnD c (mAt 4 0) 42 ["self", "width", "height", "rows"] := pg.mt 0 rfl
theorem n4 (pg : Pg c) : findIn c.K (.ref 59) "__init__" = some (some (.ref 42)) := (pg.mfind 0 rfl).1
theorem t4 (pg : Pg c) : typeIn c.K (.ref 42) = some (.type "function") := (pg.mfind 0 rfl).2
theorem s4_width (pg : Pg c) : SetA c "Plane" "width" := pg.setA 0 0 0 rfl rfl rfl
theorem s4_height (pg : Pg c) : SetA c "Plane" "height" := pg.setA 0 0 1 rfl rfl rfl
theorem s4_rows (pg : Pg c) : SetA c "Plane" "rows" := pg.setA 0 0 2 rfl rfl rfl
theorem h38 (pg : Pg c) : c.mg "TwoDct" = some (.ref 206) := pg.glob 1 rfl
theorem k38 (pg : Pg c) : keepIn c.K (.ref 206) = true := (pg.clsOk 1 rfl).1
theorem m38 (pg : Pg c) : makesIn c.K 206 = true := (pg.clsOk 1 rfl).2.1
theorem G38_1 (pg : Pg c) : FnD c (mAt 38 1) 196 ["self", "block"] := pg.mt 1 rfl
theorem e38_1 (pg : Pg c) : MethOf c "TwoDct" "inverse" 196 := pg.methA 1 1 1 rfl rfl rfl
theorem G38_2 (pg : Pg c) : FnD c (mAt 38 2) 203 ["self", "block"] := pg.mt 2 rfl
theorem e38_2 (pg : Pg c) : MethOf c "TwoDct" "sums" 203 := pg.methA 1 1 2 rfl rfl rfl
theorem n38 (pg : Pg c) : findIn c.K (.ref 206) "__init__" = some (some (.builtin "object.__init__")) := pg.iniOk 0 rfl
theorem h39 (pg : Pg c) : c.mg "OneDct" = some (.ref 234) := pg.glob 2 rfl
theorem k39 (pg : Pg c) : keepIn c.K (.ref 234) = true := (pg.clsOk 2 rfl).1
theorem m39 (pg : Pg c) : makesIn c.K 234 = true := (pg.clsOk 2 rfl).2.1
theorem G39_1 (pg : Pg c) : FnD c (mAt 39 1) 231 ["self", "block"] := pg.mt 3 rfl
theorem e39_1 (pg : Pg c) : MethOf c "OneDct" "inverse" 231 := pg.methA 2 2 3 rfl rfl rfl
theorem n39 (pg : Pg c) : findIn c.K (.ref 234) "__init__" = some (some (.builtin "object.__init__")) := pg.iniOk 1 rfl
theorem h72 (pg : Pg c) : c.mg "Component" = some (.ref 645) := pg.glob 3 rfl
theorem k72 (pg : Pg c) : keepIn c.K (.ref 645) = true := (pg.clsOk 3 rfl).1
theorem m72 (pg : Pg c) : makesIn c.K 645 = true := (pg.clsOk 3 rfl).2.1
theorem G72_0 (pg : Pg c) : FnD c (mAt 72 0) 642 ["self", "ident", "across", "down", "quant"] := pg.mt 4 rfl
theorem n72 (pg : Pg c) : findIn c.K (.ref 645) "__init__" = some (some (.ref 642)) := (pg.mfind 4 rfl).1
theorem t72 (pg : Pg c) : typeIn c.K (.ref 642) = some (.type "function") := (pg.mfind 4 rfl).2
theorem s72_ident (pg : Pg c) : SetA c "Component" "ident" := pg.setA 3 1 3 rfl rfl rfl
theorem s72_across (pg : Pg c) : SetA c "Component" "across" := pg.setA 3 1 4 rfl rfl rfl
theorem s72_down (pg : Pg c) : SetA c "Component" "down" := pg.setA 3 1 5 rfl rfl rfl
theorem s72_quant (pg : Pg c) : SetA c "Component" "quant" := pg.setA 3 1 6 rfl rfl rfl
theorem h73 (pg : Pg c) : c.mg "Frame" = some (.ref 711) := pg.glob 4 rfl
theorem k73 (pg : Pg c) : keepIn c.K (.ref 711) = true := (pg.clsOk 4 rfl).1
theorem m73 (pg : Pg c) : makesIn c.K 711 = true := (pg.clsOk 4 rfl).2.1
theorem G73_0 (pg : Pg c) : FnD c (mAt 73 0) 663 ["self", "kind", "precision", "height", "width", "components", "n"] := pg.mt 5 rfl
theorem n73 (pg : Pg c) : findIn c.K (.ref 711) "__init__" = some (some (.ref 663)) := (pg.mfind 5 rfl).1
theorem t73 (pg : Pg c) : typeIn c.K (.ref 663) = some (.type "function") := (pg.mfind 5 rfl).2
theorem G73_1 (pg : Pg c) : FnD c (mAt 73 1) 668 ["self"] := pg.mt 6 rfl
theorem G73_2 (pg : Pg c) : FnD c (mAt 73 2) 673 ["self"] := pg.mt 7 rfl
theorem G73_3 (pg : Pg c) : FnD c (mAt 73 3) 680 ["self"] := pg.mt 8 rfl
theorem G73_4 (pg : Pg c) : FnD c (mAt 73 4) 687 ["self"] := pg.mt 9 rfl
theorem G73_5 (pg : Pg c) : FnD c (mAt 73 5) 694 ["self", "place"] := pg.mt 10 rfl
theorem G73_6 (pg : Pg c) : FnD c (mAt 73 6) 701 ["self", "place"] := pg.mt 11 rfl
theorem G73_7 (pg : Pg c) : FnD c (mAt 73 7) 708 ["self", "place"] := pg.mt 12 rfl
theorem s73_kind (pg : Pg c) : SetA c "Frame" "kind" := pg.setA 4 2 7 rfl rfl rfl
theorem s73_precision (pg : Pg c) : SetA c "Frame" "precision" := pg.setA 4 2 8 rfl rfl rfl
theorem s73_height (pg : Pg c) : SetA c "Frame" "height" := pg.setA 4 2 9 rfl rfl rfl
theorem s73_width (pg : Pg c) : SetA c "Frame" "width" := pg.setA 4 2 10 rfl rfl rfl
theorem s73_components (pg : Pg c) : SetA c "Frame" "components" := pg.setA 4 2 11 rfl rfl rfl
theorem s73_n (pg : Pg c) : SetA c "Frame" "n" := pg.setA 4 2 12 rfl rfl rfl
theorem h75 (pg : Pg c) : c.mg "Grid" = some (.ref 744) := pg.glob 5 rfl
theorem k75 (pg : Pg c) : keepIn c.K (.ref 744) = true := (pg.clsOk 5 rfl).1
theorem m75 (pg : Pg c) : makesIn c.K 744 = true := (pg.clsOk 5 rfl).2.1
theorem G75_0 (pg : Pg c) : FnD c (mAt 75 0) 727 ["self", "frame"] := pg.mt 13 rfl
theorem n75 (pg : Pg c) : findIn c.K (.ref 744) "__init__" = some (some (.ref 727)) := (pg.mfind 13 rfl).1
theorem t75 (pg : Pg c) : typeIn c.K (.ref 727) = some (.type "function") := (pg.mfind 13 rfl).2
theorem G75_1 (pg : Pg c) : FnD c (mAt 75 1) 734 ["self", "place", "x", "y"] := pg.mt 14 rfl
theorem G75_2 (pg : Pg c) : FnD c (mAt 75 2) 741 ["self", "place", "x", "y", "row"] := pg.mt 15 rfl
theorem s75_many (pg : Pg c) : SetA c "Grid" "many" := pg.setA 5 3 13 rfl rfl rfl
theorem p75_planes (pg : Pg c) : Plain c "Grid" "planes" := pg.plainA 5 5 3 14 rfl rfl rfl rfl
theorem s75_planes (pg : Pg c) : SetA c "Grid" "planes" := pg.setA 5 3 14 rfl rfl rfl
end
end Pg
section
variable {c : Cx} {k : Nat} {sc : SC} {ρ : Rho} {μ : Mu}
theorem attr_goal {μ : Mu} {o v : PV} {attr cls : Str} {fs : List (Str × PV)} {Q : PV → Mu → Prop} (h1 : Fields μ o = some (cls, fs)) (h2 : fs.lookup attr = some v) (h3 : handedP v = true) (pg : Pg c) (h4 : Pg.attrLk cls attr = true) (hq : Q v μ) : kAttr c attr Q o μ := ⟨cls, fs, v, h1, h2, h3, pg.plainT h4, hq⟩
theorem meth_goal {μ : Mu} {o : PV} {name cls : Str} {f : Addr} {es : List Expr} {fs : List (Str × PV)} {Q : PV → Mu → Prop} (h1 : Fields μ o = some (cls, fs)) (h2 : fs.lookup name = none) (h3 : Pg.methLk cls name = some f) (hq : WEs c k sc ρ μ es (kMo c k (.ref f) o Q)) : Pg.kMT c k sc ρ name es Q o μ := ⟨cls, fs, f, h1, h2, h3, hq⟩
noncomputable def kdOk : Option NameKind → Bool
  | some .local => true
  | some .cell => true
  | some .free => true
  | _ => false
theorem kdOk_inv {o : Option NameKind} (h : kdOk o = true) : ∃ kd, o = some kd ∧ (kd = .local ∨ kd = .cell ∨ kd = .free) := by
  cases o with
  | none => exact Bool.noConfusion h
  | some kd => exact ⟨kd, rfl, by cases kd <;> first | exact .inl rfl | exact .inr (.inl rfl) | exact .inr (.inr rfl) | exact Bool.noConfusion h⟩
noncomputable def nameOk (sc : SC) (x : Str) : Bool := kdOk (sc.scope.names.lookup x) && !(x == ("__debug__" : Str)) && !(x == ("__classdict__" : Str))
theorem nameOk_inv {x : Str} (h : nameOk sc x = true) : ∃ kd, sc.scope.names.lookup x = some kd ∧ (kd = .local ∨ kd = .cell ∨ kd = .free) ∧ (x == ("__debug__" : Str)) = false ∧ (x == ("__classdict__" : Str)) = false := by
  have h := Bool.and_eq_true_iff.mp h
  have h1 := Bool.and_eq_true_iff.mp h.1
  obtain ⟨kd, e, q⟩ := kdOk_inv h1.1
  exact ⟨kd, e, q, Bool.not_eq_eq_eq_not.mp h1.2, Bool.not_eq_eq_eq_not.mp h.2⟩
theorem WE_Nm {x : Str} {pos : Pos} {v : PV} {Q : PV → Mu → Prop} (h : nameOk sc x = true) (hr : ρ.lookup x = some v) (hq : Q v μ) : WE c k sc ρ μ (.Name x pos) Q :=
  let ⟨_, e, q, a, b⟩ := nameOk_inv h
  WE_Name e hr hq q a b
noncomputable def storeOk (sc : SC) (x : Str) : Bool := match sc.scope.names.lookup x with | some .local => true | some .cell => decide (x ∈ sc.own) | _ => false
theorem WA_Nm {x : Str} {v : PV} {pos : Pos} {Q : Rho → Mu → Prop} (h : storeOk sc x = true) (hq : Q (ρ.set x v) μ) : WA c k sc ρ μ (.Name x pos) v Q := by
  unfold storeOk at h
  cases e : sc.scope.names.lookup x with
  | none => rw [e] at h; cases h
  | some kd =>
    rw [e] at h
    refine WA_Name e ?_ hq
    cases kd <;> first | exact .inl rfl | exact .inr ⟨rfl, of_decide_eq_true h⟩ | cases h
noncomputable def constP : Const → Option PV
  | .int i => some (.int i)
  | _ => none
noncomputable def intP : Option PV → Option Int
  | some (.int i) => some i
  | _ => none
theorem of_intP {a : Option PV} {i : Int} (h : intP a = some i) : a = some (.int i) := by
  have nn : none = some i → False := nofun
  cases a with
  | none => exact (nn h).elim
  | some a => cases a <;> first | exact (nn h).elim | exact congrArg (fun x => some (PV.int x)) (Option.some.inj h)
noncomputable def arithP (i j : Int) : Operator → Option PV
  | .Add => some (.int (i + j))
  | .Sub => some (.int (i - j))
  | _ => none
noncomputable def cmpI (i j : Int) : CmpOp → Option Bool
  | .Eq => some (i == j)
  | .NotEq => some (i != j)
  | .Lt => some (decide (i < j))
  | .Gt => some (decide (i > j))
  | .LtE => some (decide (i ≤ j))
  | .GtE => some (decide (i ≥ j))
  | _ => none
noncomputable def binP (op : Operator) (a b : Option PV) : Option PV := (intP a).bind fun i => (intP b).bind fun j => arithP i j op
noncomputable def cmpP (op : CmpOp) (a b : Option PV) : Option PV := (intP a).bind fun i => (intP b).bind fun j => (cmpI i j op).map .bool
noncomputable def pE (sc : SC) (ρ : Rho) : Nat → Expr → Option PV
  | 0, _ => none
  | n + 1, e => match e with
    | .Constant x _ _ => constP x
    | .Name x _ => (match nameOk sc x with | true => ρ.lookup x | false => none)
    | .BinOp l op r _ => binP op (pE sc ρ n l) (pE sc ρ n r)
    | .Compare l ops rs _ => (match ops, rs with
      | [op], [r] => (match behindInMarks op r with | false => cmpP op (pE sc ρ n l) (pE sc ρ n r) | true => none)
      | _, _ => none)
    | _ => none
noncomputable def pEs (sc : SC) (ρ : Rho) : List Expr → Option (List PV)
  | [] => some []
  | e :: es => (match pE sc ρ 6 e, pEs sc ρ es with | some v, some vs => some (v :: vs) | _, _ => none)
theorem binP_some {op : Operator} {a b : Option PV} {v : PV} (h : binP op a b = some v) : ∃ i j, a = some (.int i) ∧ b = some (.int j) ∧ arithP i j op = some v := by
  obtain ⟨i, hi, h⟩ := Option.bind_eq_some_iff.mp h
  obtain ⟨j, hj, h⟩ := Option.bind_eq_some_iff.mp h
  exact ⟨i, j, of_intP hi, of_intP hj, h⟩
theorem cmpP_some {op : CmpOp} {a b : Option PV} {v : PV} (h : cmpP op a b = some v) : ∃ i j t, a = some (.int i) ∧ b = some (.int j) ∧ cmpI i j op = some t ∧ v = .bool t := by
  obtain ⟨i, hi, h⟩ := Option.bind_eq_some_iff.mp h
  obtain ⟨j, hj, h⟩ := Option.bind_eq_some_iff.mp h
  obtain ⟨t, ht, h⟩ := Option.map_eq_some_iff.mp h
  exact ⟨i, j, t, of_intP hi, of_intP hj, ht, h.symm⟩
theorem WO_binP {op : Operator} {i j : Int} {v : PV} {Q : PV → Mu → Prop} (h : arithP i j op = some v) (hq : Q v μ) : WO c k (t2 (binaryOp op)) [.int i, .int j] μ Q := by
  have nn : none = some v → False := nofun
  cases op <;> first | exact (nn h).elim | obtain rfl := Option.some.inj h
  · exact WO_add hq
  · exact WO_sub hq
theorem WO_cmpP {op : CmpOp} {i j : Int} {t : Bool} {Q : PV → Mu → Prop} (h : cmpI i j op = some t) (hq : Q (.bool t) μ) : WO c k (t2 (compareOp op)) [.int i, .int j] μ Q := by
  have nn : none = some t → False := nofun
  cases op <;> first | exact (nn h).elim | obtain rfl := Option.some.inj h
  · exact WO_eq hq
  · exact WO_ne hq
  · exact WO_lt hq
  · exact WO_le hq
  · exact WO_gt hq
  · exact WO_ge hq
theorem cmp_inv {n : Nat} {l : Expr} {ops : List CmpOp} {rs : List Expr} {pos : Pos} {v : PV} (h : pE sc ρ (n + 1) (.Compare l ops rs pos) = some v) : ∃ op r, ops = [op] ∧ rs = [r] ∧ behindInMarks op r = false ∧ cmpP op (pE sc ρ n l) (pE sc ρ n r) = some v := by
  have nn : none = some v → False := nofun
  rcases ops with _ | ⟨op, _ | ⟨o2, ops⟩⟩
  · exact (nn h).elim
  · rcases rs with _ | ⟨r, _ | ⟨r2, rs⟩⟩
    · exact (nn h).elim
    · refine ⟨op, r, rfl, rfl, ?_⟩
      change (match behindInMarks op r with | false => cmpP op (pE sc ρ n l) (pE sc ρ n r) | true => none) = some v at h
      cases q : behindInMarks op r with
      | false => rw [q] at h; exact ⟨rfl, h⟩
      | true => rw [q] at h; exact (nn h).elim
    · exact (nn h).elim
  · exact (nn h).elim
theorem WE_pn : ∀ (n : Nat) {e : Expr} {v : PV} {Q : PV → Mu → Prop}, pE sc ρ n e = some v → Q v μ → WE c k sc ρ μ e Q ∧ notStar e = true := by
  intro n
  induction n with
  | zero => intro e v Q h; cases h
  | succ n ih =>
    intro e v Q h hq
    have nn : none = some v → WE c k sc ρ μ e Q ∧ notStar e = true := nofun
    cases e <;> first | exact nn h | skip
    case Constant x m pos =>
      refine ⟨?_, rfl⟩
      have nn : none = some v → WE c k sc ρ μ (.Constant x m pos) Q := nofun
      cases x <;> first | exact nn h | skip
      cases h; exact WE_int hq
    case Name x pos =>
      refine ⟨?_, rfl⟩
      change (match nameOk sc x with | true => ρ.lookup x | false => none) = some v at h
      cases q : nameOk sc x with
      | false => rw [q] at h; cases h
      | true => rw [q] at h; exact WE_Nm q h hq
    case BinOp l op r pos =>
      refine ⟨?_, rfl⟩
      change binP op (pE sc ρ n l) (pE sc ρ n r) = some v at h
      obtain ⟨x, y, hx, hy, h⟩ := binP_some h
      exact WE_BinOp (ih hx (ih hy (WO_binP h hq)).1).1
    case Compare l ops rs pos =>
      refine ⟨?_, rfl⟩
      obtain ⟨op, r, rfl, rfl, hm, h⟩ := cmp_inv h
      obtain ⟨x, y, t, hx, hy, h', rfl⟩ := cmpP_some h
      exact WE_Compare hm (ih hx (ih hy (WO_cmpP h' hq)).1).1
theorem WE_p {e : Expr} {v : PV} {Q : PV → Mu → Prop} (h : pE sc ρ 6 e = some v) (hq : Q v μ) : WE c k sc ρ μ e Q := (WE_pn 6 h hq).1
theorem WEs_p {vs : List PV} {Q : List PV → Mu → Prop} {es : List Expr} (h : pEs sc ρ es = some vs) (hq : Q vs μ) : WEs c k sc ρ μ es Q := by
  induction es generalizing vs Q with
  | nil => cases h; exact WEs_nil hq
  | cons e es ih =>
    change (match pE sc ρ 6 e, pEs sc ρ es with | some v, some vs => some (v :: vs) | _, _ => none) = some vs at h
    cases q : pE sc ρ 6 e with
    | none => rw [q] at h; cases h
    | some v =>
      cases q2 : pEs sc ρ es with
      | none => rw [q, q2] at h; cases h
      | some ws =>
        rw [q, q2] at h
        cases h
        have := WE_pn (c := c) (k := k) (μ := μ) 6 q (Q := fun v' m => WEs c k sc ρ m es (fun vs m' => Q (v' :: vs) m')) (ih q2 hq)
        exact WEs_cons this.2 this.1
theorem WT_p {l : Expr} {ops : List CmpOp} {rs : List Expr} {pos : Pos} {v : PV} {Q : Bool → Mu → Prop} (h : pE sc ρ 6 (.Compare l ops rs pos) = some v) (hq : ∃ b, v = .bool b ∧ Q b μ) : WT c k sc ρ μ (.Compare l ops rs pos) Q := by
  obtain ⟨op, r, rfl, rfl, hm, h⟩ := cmp_inv h
  obtain ⟨x, y, t, hx, hy, h', rfl⟩ := cmpP_some h
  exact WT_Compare hm (WE_pn 5 hx (WE_pn 5 hy (WO_cmpP h' hq)).1).1
theorem WSs_asg {x : Str} {e : Expr} {v : PV} {p pos : Pos} {rs : List Stmt} {Q : PPost} (h : pE sc ρ 6 e = some v) (hx : storeOk sc x = true) (hs : swapsWith e (some (.Name x p)) pos.line (env0 sc.scope) = pure false) (hw : swappedStores [.Name x p] e (env0 sc.scope) = pure none)
    (hq : WSs c k sc (ρ.set x v) μ rs Q) : WSs c k sc ρ μ (.Assign [.Name x p] e pos :: rs) Q := WSs_cons (WS_Assign (WE_p h (WA_Nm hx hq)) hs hw rfl)
theorem WSs_ret {e : Expr} {v : PV} {pos : Pos} {rs : List Stmt} {Q : PPost} (h : pE sc ρ 6 e = some v) (hq : Q (.ret v) ρ μ) : WSs c k sc ρ μ (.Return (some e) pos :: rs) Q := WSs_cons (WS_Return (WE_p h hq))
end
section
variable {c : Cx} {k : Nat} {sc : SC} {ρ : Rho} {μ : Mu}
theorem WS_As {t e : Expr} {pos : Pos} {Q : PPost} (hs : swapsWith e (some t) pos.line (env0 sc.scope) = pure false) (hw : swappedStores [t] e (env0 sc.scope) = pure none) (ht : notStar t = true) (h : WE c k sc ρ μ e (kAs c k sc ρ t Q)) : WS c k sc ρ μ (.Assign [t] e pos) Q := WS_Assign h hs hw ht
theorem WE_At {oe : Expr} {attr : Str} {pos : Pos} {Q : PV → Mu → Prop} (pg : Pg c) (hn : notCall oe = true) (h : WE c k sc ρ μ oe (kAttr c attr Q)) : WE c k sc ρ μ (.Attribute oe attr pos) Q := WE_Attr pg.ok hn h
theorem sub_list {l : List PV} {P : Prop} (h : P) : Sub μ (.list l) ∧ P := ⟨.list _, h⟩
theorem sub_tuple {l : List PV} {P : Prop} (h : P) : Sub μ (.tuple l) ∧ P := ⟨.tuple _, h⟩
theorem sub_dict {l : List (List Int × PV)} {P : Prop} (h : P) : Sub μ (.dict l) ∧ P := ⟨.dict _, h⟩
theorem WS_app {x : Str} {p1 p2 p3 p4 : Pos} {e : Expr} {a : Addr} {l₀ : List PV} {Q : PPost} (h : nameOk sc x = true) (hr : ρ.lookup x = some (.ptr a)) (_ : (x == ("__classdict__" : Str)) = false) (hp : (p2.endLine == p3.line) = true) (he : notStar e = true) (hm : μ a = some (.list l₀))
    (hq : WE c k sc ρ μ e (kApp ρ a Q)) : WS c k sc ρ μ (.Expr (.Call (.Attribute (.Name x p1) "append" p2) [e] [] p3) p4) Q :=
  let ⟨_, e, q, a, b⟩ := nameOk_inv h
  WS_append e hr q a b hp he hm hq
end
def tR (n : Nat) (s : Lean.Name) : Lean.MacroM (Lean.TSyntax `tactic) := do
  let c := Lean.mkIdent s
  if n = 0 then return ← `(tactic| refine $c ?_)
  let hs := (Array.range n).map fun i => Lean.mkIdent (.num `h i)
  let as ← hs.mapM fun h => `(?$h:ident)
  let t ← `(tactic| refine' $c $as* ?_)
  hs.foldlM (fun t h => `(tactic| ($t:tactic; case $h:ident => first | with_unfolding_all rfl | assumption))) t
def tF (r : Lean.TSyntax `tactic) (l : List (Nat × Lean.Name)) : Lean.MacroM (Lean.TSyntax `tactic) :=
  l.foldrM (fun p r => do `(tactic| first | $(← tR p.1 p.2):tactic | $r:tactic)) r
def tSt (r : Lean.TSyntax `tactic) : Lean.MacroM (Lean.TSyntax `tactic) := tF r [(0, `WSs_nil), (1, `WE_p), (1, `WEs_p), (1, `WT_p), (4, `WSs_asg), (1, `WSs_ret), (0, `WE_BinOp), (1, `WE_Compare), (0, `WE_UnaryOp), (0, `WS_Return), (0, `WS_If), (1, `WT_Compare), (0, `WT_Not), (0, `WO_add), (0, `WO_sub), (0, `WO_neg), (0, `WO_lt), (0, `WO_gt), (0, `WO_eq), (3, `WS_As), (1, `WA_Nm), (0, `WSs_cons), (1, `WEs_cons), (0, `WEs_nil), (0, `WE_Tuple), (0, `WE_List)]
local macro_rules
  | `(tactic| walk_at "st") => do `(tactic| with_reducible $(← tSt (← `(tactic| fail))):tactic)
  | `(tactic| walk_at "ass") => do `(tactic| with_reducible repeat $(← tF (← `(tactic| fail)) [(1, `WAs_cons), (0, `WAs_nil), (1, `WA_Nm)]):tactic)
  | `(tactic| walk_at "go") => do `(tactic| repeat with_reducible $(← tSt (← tF (← `(tactic| fail)) [(2, `Pg.callT), (2, `WE_At), (5, `attr_goal), (2, `Pg.methT), (3, `meth_goal), (0, `WE_Sub), (0, `sub_list), (0, `sub_tuple), (0, `sub_dict), (0, `WO_range1), (0, `WO_range2), (0, `WO_int_bool), (0, `WO_ge), (0, `WO_le), (0, `WO_ne), (0, `WA_Sub), (0, `WT_and), (0, `WT_or)])):tactic)
theorem fld_goal {c : Cx} {μ : Mu} {attr cls : Str} {a d : Addr} {fs : List (Str × PV)} {Q : List (Str × PV) → Prop} (h1 : μ d = some (.ns fs)) (h2 : SetA c cls attr) (h3 : fs.length ≤ 100) (h4 : fs.lookup attr = none) (hq : Q fs) :
    ∃ a' cls' d' fs, PV.mi a cls d = .mi a' cls' d' ∧ μ d' = some (.ns fs) ∧ SetA c cls' attr ∧ fs.length ≤ 100 ∧ fs.lookup attr = none ∧ Q fs := ⟨a, cls, d, fs, rfl, h1, h2, h3, h4, hq⟩
noncomputable def compP (i : Nat) : PV := .inst "Component" [("ident", .int i), ("across", .int 1), ("down", .int 1), ("quant", .int 0)]
noncomputable def frameP (n bits w h : Int) (many : Nat) : PV := .inst "Frame" [("kind", .str "extended"), ("precision", .int bits), ("height", .int h), ("width", .int w), ("components", .list ((List.range many).map compP)), ("n", .int n)]
section
variable {prog : Program} {w : World} {A : Around} {R : Result → Shared → Prop} {h : Heap} {g : Array GenState} {d : Drawn} {t : Nat} {os : OsState}
variable {nm q : Str} {C N : Addr} {bs bm bmB : List Value} {hdct : Bool} {sn : List Str} {sub : List Value} {ab : Bool} {col : Option Bool} {dd : Option Addr} {k0 k1 k2 k3 k5 : Option Value} {B newId initId : String}

theorem exc_new' (F : ExcBaseFacts B newId initId bmB) (hB : bm.contains (.type B) = true) (hA : bm.contains (.type "AttributeError") = false) (hN : bm.contains (.type "NameError") = false) {rest : List Value}
    (hC : h.get? C = some (excClassObj nm q C N bs bm hdct sn sub ab col dd k0 k1 k2 k3 k5 newId))
    (hq : R (.ok (.ret (.ref (h.objs.size + 1)))) ⟨(h.push { cls := .type "tuple", data := .seq rest.toArray }).push (xO C (.ref h.objs.size) none), g, d, t, os⟩) (hrest : rest.length ≤ sizeLine) :
    codeAny (model prog w) A (.builtin newId ⟨.ref C :: rest, []⟩) R ⟨h, g, d, t, os⟩ := by
  have hends := F.ends
  have hcB : (Value.ref C :: bm).contains (.type B) = true := by rw [List.contains_cons, hB, Bool.or_true]
  have hcA : (Value.ref C :: bm).contains (.type "AttributeError") = false := by rw [List.contains_cons, hA]; rfl
  have hcN : (Value.ref C :: bm).contains (.type "NameError") = false := by rw [List.contains_cons, hN]; rfl
  refine codeAny_builtinAt F.entry ?_
  unfold Builtin.«BaseException.__new__»
  refine PySem.wpAt_bind ?_
  show PySem.wpAt _ _ _ (stack >>= _) _ _ _
  refine PySem.wpAt_bind (PySem.wpAt_stack fun p below => PySem.wpAt_of_wpAny ?_)
  wp_walk
  refine PySem.wpAt_of_wpAny ?_
  rw [F.owner]
  repeat (first | with_reducible refine wpAny_madeHere_exc F.canon hC ?_ | with_reducible refine wpAny_loadPart_at hC ?_ | (with_reducible refine wpAny_isSubtype_exc hC ?_; first | rw [hcB] | rw [hcA] | rw [hcN]) | wp_step)
  show R _ _
  rw [Heap.size_push]
  exact hq
theorem exc_check_new (F : ExcBaseFacts B newId initId bmB) (hB : bm.contains (.type B) = true) {M : Model} {E : Value → Shared → Prop} {rest : List Value} {Q : Unit → Shared → Prop} (hC : h.get? C = some (excClassObj nm q C N bs bm hdct sn sub ab col dd k0 k1 k2 k3 k5 newId))
    (hq : Q () ⟨h, g, d, t, os⟩) : wpAny M A (checkBuiltinCall newId ⟨.ref C :: rest, []⟩) Q E ⟨h, g, d, t, os⟩ := by
  have hcont : (Value.ref C :: bm).contains (.type B) = true := by rw [List.contains_cons, hB, Bool.or_true]
  have hstar := F.noStar
  unfold checkBuiltinCall
  rw [F.newKind]
  dsimp only
  rw [F.newSplit]
  dsimp only
  rw [F.newRow]
  dsimp only
  repeat (first | refine wpAny_loadPart_at hC ?_ | (refine wpAny_isSubtype_exc hC ?_; rw [hcont]) | refine wpAny_staticBase_exc hC ?_ | refine wpAny_madeBy_exc hC ?_ | simp only [bne_self_eq_false, Bool.false_eq_true, if_false] | wp_step)
  exact hq
theorem exc_check_init (F : ExcBaseFacts B newId initId bmB) (hB : bm.contains (.type B) = true) {M : Model} {E : Value → Shared → Prop} {e : Addr} {oe : Obj} {rest : List Value} {Q : Unit → Shared → Prop}
    (hC : h.get? C = some (excClassObj nm q C N bs bm hdct sn sub ab col dd k0 k1 k2 k3 k5 newId)) (he : h.get? e = some oe) (hcls : oe.cls = .ref C) (hq : Q () ⟨h, g, d, t, os⟩) :
    wpAny M A (checkBuiltinCall initId ⟨.ref e :: rest, []⟩) Q E ⟨h, g, d, t, os⟩ := by
  have hcB : (Value.ref C :: bm).contains (.type B) = true := by rw [List.contains_cons, hB, Bool.or_true]
  have hshort := F.noStar
  unfold checkBuiltinCall
  rw [F.initKind]
  dsimp only
  rw [F.initSplit]
  dsimp only
  rw [F.initRow]
  dsimp only
  repeat (first | (with_reducible refine wpAny_loadPart_at he ?_; rw [hcls]) | with_reducible refine wpAny_loadPart_at hC ?_ | (with_reducible refine wpAny_isSubtype_exc hC ?_; rw [hcB]) | wp_step)
  refine wpAny_onRaise ?_
  rw [show ∀ (a b : String) (n : Nat), Bind.check ⟨.positional, "*", B, .self, [⟨"args", .varPos, false⟩]⟩ a b n (List.map (fun x => x.fst) ({ pos := Value.ref e :: rest } : Args).kw) = pure () from
    fun a b n => check_star_args _ _ _ _ _ _]
  exact wpAny_pure hq
theorem exc_type_call (F : ExcBaseFacts B newId initId bmB) (hB : bm.contains (.type B) = true) (hA : bm.contains (.type "AttributeError") = false) (hN : bm.contains (.type "NameError") = false) {E : Value → Shared → Prop} {rest : List Value} {fI : Addr} {Q : Fin → Shared → Prop}
    (hC : h.get? C = some (excClassObj nm q C N bs bm hdct sn sub ab col dd k0 k1 k2 k3 k5 newId)) (hi : Looks (model prog w) h (typeLookup (.ref C) "__init__") (some (.ref fI))) (hb : ∀ self, Looks (model prog w) h (bindSpecial (.ref fI) self) (.ref fI, [self]))
    (hq : codeAny (model prog w) A (.call (.ref fI) ⟨.ref (h.objs.size + 1) :: rest, []⟩) (fun r s' => match r with | .ok (.ret v) => v = .none ∧ Q (.done (.ret (.ref (h.objs.size + 1)))) s' | .ok _ => False | .error e => E e s')
      ⟨(h.push { cls := .type "tuple", data := .seq rest.toArray }).push (xO C (.ref h.objs.size) none), g, d, t, os⟩) (hrest : rest.length ≤ sizeLine) :
    wpAny (model prog w) A (Builtin.«type.__call__» ⟨.ref C :: rest, []⟩) Q E ⟨h, g, d, t, os⟩ := by
  repeat (first | with_reducible refine wpAny_loadPart_at hC ?_ | with_reducible refine wpAny_madeBy_exc hC ?_ | wp_step)
  refine codeAny_call_builtin_code (Code.quiet_builtin _ F.quiet) (exc_check_new F hB hC ?_)
  refine exc_new' F hB hA hN hC ?_ hrest
  show wpAny _ _ _ _ _ _
  have k : ∀ b o, h.get? b = some o → ((h.push { cls := .type "tuple", data := .seq rest.toArray }).push (xO C (.ref h.objs.size) none)).get? b = some o := fun b o e => Heap.get?_push_of_some _ (Heap.get?_push_of_some _ e)
  have hC₁ := k _ _ hC
  have hget : ((h.push { cls := .type "tuple", data := .seq rest.toArray }).push (xO C (.ref h.objs.size) none)).get? (h.objs.size + 1) = some (xO C (.ref h.objs.size) none) := by heap_get
  have hcC : (Value.ref C :: bm).contains (.ref C) = true := by simp
  unfold isInstance
  repeat (first | with_reducible refine wpAny_loadPart_at hget ?_ | (with_reducible refine wpAny_isSubtype_exc hC₁ ?_; rw [hcC]) | wp_step)
  show wpAny _ _ (typeLookup (.ref C) _) _ _ _
  refine (hi.keeps k).at (wpAny_holding (wpAny_bind (((hb _).keeps k).at ?_)))
  refine wpAny_bind (wpAny_call (codeAny_mono hq fun r s' z => ?_))
  rcases r with e | (v | _ | _ | _) <;> first | exact z | exact z.elim | skip
  obtain ⟨rfl, z⟩ := z
  exact wpAny_pure (wpAny_pure z)
theorem exc_call (F : ExcBaseFacts B newId initId bmB) (hB : bm.contains (.type B) = true) (hA : bm.contains (.type "AttributeError") = false) (hN : bm.contains (.type "NameError") = false) {rest : List Value} {fI : Addr}
    (hC : h.get? C = some (excClassObj nm q C N bs bm hdct sn sub ab col dd k0 k1 k2 k3 k5 newId)) (hi : Looks (model prog w) h (typeLookup (.ref C) "__init__") (some (.ref fI))) (hb : ∀ self, Looks (model prog w) h (bindSpecial (.ref fI) self) (.ref fI, [self]))
    (hq : codeAny (model prog w) (A.under (.builtin "type.__call__" ⟨.ref C :: rest, []⟩)) (.call (.ref fI) ⟨.ref (h.objs.size + 1) :: rest, []⟩) (fun r s' => match r with | .ok (.ret v) => v = .none ∧ R (.ok (.ret (.ref (h.objs.size + 1)))) s' | .ok _ => False | .error e => R (.error e) s')
      ⟨(h.push { cls := .type "tuple", data := .seq rest.toArray }).push (xO C (.ref h.objs.size) none), g, d, t, os⟩) (hrest : rest.length ≤ sizeLine) :
    codeAny (model prog w) A (.call (.ref C) ⟨rest, []⟩) R ⟨h, g, d, t, os⟩ := by
  have f1 := tc_lookup
  have f2 := tc_bind (.ref C)
  have hT : (⟨h, g, d, t, os⟩ : Shared).TypeIs (.ref C) "type" := ⟨_, hC, rfl⟩
  refine codeAny_of_tree ?_
  show wpAny _ _ (callAny (.ref C) _) _ _ _
  repeat (any_goals (first | assumption | with_reducible refine wpAny_loadPart_at hC ?_ | wp_step))
  refine ⟨rfl, ?_⟩
  exact codeAny_call_builtin_at (Code.quiet_builtin _ (by decide +kernel)) entry_typeCall (wpAny_check_type_call_sub hC (exc_type_call F hB hA hN hC hi hb hq hrest))
end
noncomputable abbrev bmE : List Value := [.type "Exception", .type "BaseException", .type "object"]
structure XCls (c : Cx) (C P fI : Addr) : Prop where
  obj : ∃ nm q N bs hdct sn sub ab col dd k0 k1 k2 k3 k5, hdct = true ∧ c.h₀.get? C = some (excClassObj nm q C N bs (.ref P :: bmE) hdct sn sub ab col dd k0 k1 k2 k3 k5 "Exception.__new__")
  init : findIn c.K (.ref C) "__init__" = some (some (.ref fI))
  fn : typeIn c.K (.ref fI) = some (.type "function")
  set : findIn c.K (.ref C) "__setattr__" = some (some (.builtin "object.__setattr__"))
  no : findIn c.K (.ref C) "message" = some none
  F : Fn c fI ["self", "message"] (fBody (mAt 41 0)) (fScope (mAt 41 0))
section
variable {prog : Program} {w : World} {A : Around} {E : Value → Shared → Prop} {s : Shared}
theorem exc_store {e C P N : Addr} {nm q : Str} {bs : List Value} {sn : List Str} {sub : List Value} {ab : Bool} {col : Option Bool} {dd : Option Addr} {k0 k1 k2 k3 k5 : Option Value} {newId : String} {t v : Value} {name : Str} {tk : Tok} {Q : Fin → Shared → Prop}
    (he : s.heap.get? e = some (xO C t none)) (hC : s.heap.get? C = some (excClassObj nm q C N bs (.ref P :: bmE) true sn sub ab col dd k0 k1 k2 k3 k5 newId)) (hna : Looks (model prog w) s.heap (typeLookup (.ref C) name) none)
    (hq : ∀ h' tk', h'.get? e = some (xO C t (some s.heap.objs.size)) → (∀ b o, b ≠ e → s.heap.get? b = some o → h'.get? b = some o) → Q (.done (.ret .none)) { s with heap := h', toks := tk' }) :
    wpAny (model prog w) A (Builtin.«object.__setattr__» ⟨[.ref e, .str name tk, v], []⟩) Q E s := by
  obtain ⟨h, g, d, tt, os⟩ := s
  have ty : Looks (model prog w) h (typeOf (.ref e)) (.ref C) := (Looks.ld he).andThen .now
  have hm : Looks (model prog w) h (mroOf (.ref C)) (.ref C :: .ref P :: bmE) := ((Looks.ld (part := none) hC).andThen .now).andThen .now
  rw [osa_eq, refuse_eq]
  refine wpAny_bind (wpAny_bind (ty.here (wpAny_bind (hm.here ?_))))
  rw [refuseLoop_ref, refuseLoop_ref, PySem.F.store_Exception.passes]
  refine wpAny_pure (wpAny_bind (ty.here (wpAny_bind (hna.here (wpAny_bind (wpAny_pure ?_))))))
  have hxs : e ≠ h.objs.size := Nat.ne_of_lt (Heap.lt_size he)
  have hx₁ : (h.push { cls := .type "dict", data := .dict #[] }).get? e = some (xO C t none) := Heap.get?_push_of_some _ he
  have hcd : Looks (model prog w) h (classData C) { name := nm, bases := bs, mro := .ref C :: .ref P :: bmE, ns := N, qualname := q, hasDict := true, slotNames := sn, subclasses := sub, abstract := ab, collection := col, hasDel := false } := (Looks.ld (part := none) hC).andThen .now
  refine wpAny_bind (wpAny_pure (wpAny_bind (wpAny_bind (wpAny_loadPart he (wpAny_bind (hcd.here ?_))))))
  refine wpAny_bind (wpAny_alloc' ?_)
  refine wpAny_bind (wpAny_update' hx₁ ?_)
  refine wpAny_pure ?_
  have hgd : ((h.push { cls := .type "dict", data := .dict #[] }).update e fun o => { cls := o.cls, dict := some h.objs.size, data := o.data, slots := o.slots }).get? h.objs.size = some { cls := .type "dict", data := .dict #[] } :=
    (Heap.get?_update_ne _ _ _ _ hxs.symm).trans (Heap.get?_push_at rfl rfl)
  have hnd : ((h.push { cls := .type "dict", data := .dict #[] }).update e fun o => { cls := o.cls, dict := some h.objs.size, data := o.data, slots := o.slots }).Ns h.objs.size (fun _ => none) :=
    ⟨_, #[], _, hgd, rfl, fun e he => absurd he (by simp), fun _ => rfl⟩
  show wpAny _ _ (Builtin.ObjectAttr.storeInDict h.objs.size (.str name tk) name v) _ _ _
  unfold Builtin.ObjectAttr.storeInDict Builtin.ObjectAttr.newKeyGuard
  refine wpAny_bind (wpAny_pure (wpAny_bind (wpAny_nsSet1 (Heap.Ns1.of_empty hnd) fun h' hn' hs => ?_)))
  obtain ⟨oD, esD, epD, hoD, hdD, hcD⟩ := hn'.count (Within.cons name v Within.nil)
  refine wpAny_bind (wpAny_lookBehind hoD (by rw [hdD]; exact pastItsLine_dict (Nat.le_trans hcD (by rw [List.length_cons, List.length_nil, sizeLine_eq]; lia))) ?_)
  refine wpAny_pure (hq h' _ ?_ fun b o hb ho => ?_)
  · exact (hs.2 e hxs).trans (Heap.get?_update_self _ hx₁ rfl)
  · exact (hs.2 b (Nat.ne_of_lt (Heap.lt_size ho))).trans ((Heap.get?_update_ne _ _ _ _ hb).trans (Heap.get?_push_of_some _ ho))
end
section
variable {prog : Program} {w : World} {A : Around} {E : Value → Shared → Prop} {h : Heap} {g : Array GenState} {d : Drawn} {tt : Nat} {os : OsState}
theorem exc_init_run {e C : Addr} {t m : Value} {dd : Option Addr} {Q : Fin → Shared → Prop} (he : h.get? e = some (xO C t dd))
    (hq : ∀ h', h'.get? e = some (xO C (.ref h.objs.size) dd) → (∀ b o, b ≠ e → h.get? b = some o → h'.get? b = some o) → Q (.done (.ret .none)) ⟨h', g, d, tt, os⟩) :
    wpAny (model prog w) A (Builtin.«BaseException.__init__» ⟨[.ref e, m], []⟩) Q E ⟨h, g, d, tt, os⟩ := by
  have he1 : (h.push { cls := .type "tuple", data := .seq [m].toArray }).get? e = some (xO C t dd) := Heap.get?_push_of_some _ he
  have fin : ∀ A', wpAny (model prog w) A' (ret Value.none) Q E ⟨(h.push { cls := .type "tuple", data := .seq #[m] }).update e (Obj.mapFields fun x => x.setIfInBounds 0 (Value.ref h.objs.size)), g, d, tt, os⟩ := fun A' => by
    refine wpAny_pure (hq _ ?_ fun b o hb ho => ?_)
    · rw [Heap.get?_update_self _ he1 rfl]; rfl
    · rw [Heap.get?_update_other _ _ (Ne.symm hb)]; exact Heap.get?_push_of_some _ ho
  wp_walk
  split
  · exact wpAny_letGo (fin _)
  · exact wpAny_pure (fin _)
end
section
variable {c : Cx} {k : Nat} {sc : SC} {ρ : Rho} {μ : Mu} {env : Env} {X fz fz₁ : Led} {s : Shared} {A : Around} {E : Value → Shared → Prop}
theorem WO_excInit {e C P fI : Addr} {t : Value} {x : Str} {dd : Option Addr} {Q : PV → Mu → Prop} (xc : XCls c C P fI) (hm : μ e = some (.exc C t dd)) (h : ∀ t', Q .none (μ.set e (.exc C t' dd))) : WO c k (cl (.builtin "Exception.__init__")) [.ptr e, .str x] μ Q := fun A env sc ρ X fz s E vs rm ra S => by
  obtain ⟨v, w, rfl, r1, r2⟩ := ra.inv2; (first | obtain rfl := r1.inv | obtain ⟨_, rfl⟩ := r1.inv | obtain ⟨_, _, _, rfl, _, _⟩ := r1.inv | obtain ⟨_, _, rfl, _⟩ := r1.inv | obtain ⟨_, rfl, _⟩ := r1.inv | obtain ⟨_, _, _, rfl, _, _, _, _, _⟩ := r1.inv | obtain ⟨_, _, _, _, rfl, _, _, _, _⟩ := r1.inv | obtain ⟨_, _, _, _, rfl, _, _, _, _, _⟩ := r1.inv | cases r1)
  obtain ⟨o, ho, ro, _⟩ := S.x.mu e _ hm
  (first | obtain rfl := ro.inv | obtain ⟨_, rfl⟩ := ro.inv | obtain ⟨_, _, _, rfl, _, _⟩ := ro.inv | obtain ⟨_, _, rfl, _⟩ := ro.inv | obtain ⟨_, rfl, _⟩ := ro.inv | obtain ⟨_, _, _, rfl, _, _, _, _, _⟩ := ro.inv | obtain ⟨_, _, _, _, rfl, _, _, _, _⟩ := ro.inv | obtain ⟨_, _, _, _, rfl, _, _, _, _, _⟩ := ro.inv | cases ro)
  obtain ⟨nm, q, N, bs, hd, sn, sub, ab, col, dd', k0, k1, k2, k3, k5, _, hC⟩ := xc.obj
  have F := PySem.F.excBase_Exception
  obtain ⟨hh, g, d, tt, os⟩ := s
  refine wpAny_call (codeAny_call_builtin F.init.plain F.initEntry (exc_check_init F (bm := .ref P :: bmE) (by rw [List.contains_cons]; rfl) (S.base _ _ hC) ho rfl ?_))
  refine exc_init_run ho fun h' he hk => ?_
  exact ⟨_, _, fz, h _, .none, .refl _, S.putμ (s' := ⟨h', g, d, tt, os⟩) hm rfl rfl hk he .exc⟩
theorem WA_AttrX {oe : Expr} {pos : Pos} {v : PV} {Q : Rho → Mu → Prop} (ok : CxOk c)
    (h : WE c k sc ρ μ oe (fun o μ₁ => ∃ e C P fI t, o = .ptr e ∧ XCls c C P fI ∧ μ₁ e = some (.exc C t none) ∧ ∀ d, Q ρ (μ₁.set e (.exc C t (some d))))) : WA c k sc ρ μ (.Attribute oe "message" pos) v Q := fun A env X fz s E r rm rr S => by
  show wpAny _ A (do
    let ov ← holding [r] (eval oe env)
    standAt pos.atName
    holding [r, ov] (setAttr ov "message" r)
    release [r, ov] []) _ _ _
  refine wpAny_bind (wpAny_holding (h.use S rm fun ov po μ₁ fz₁ s₁ h₁ ro l1 S₁ => wpAny_bind (wpAny_standAt (wpAny_bind (wpAny_holding ?_)))))
  obtain ⟨e, C, P, fI, t, rfl, xc, hm, hq⟩ := h₁
  (first | obtain rfl := ro.inv | obtain ⟨_, rfl⟩ := ro.inv | obtain ⟨_, _, _, rfl, _, _⟩ := ro.inv | obtain ⟨_, _, rfl, _⟩ := ro.inv | obtain ⟨_, rfl, _⟩ := ro.inv | obtain ⟨_, _, _, rfl, _, _, _, _, _⟩ := ro.inv | obtain ⟨_, _, _, _, rfl, _, _, _, _⟩ := ro.inv | obtain ⟨_, _, _, _, rfl, _, _, _, _, _⟩ := ro.inv | cases ro)
  obtain ⟨o, ho, ro, _⟩ := S₁.x.mu e _ hm
  (first | obtain rfl := ro.inv | obtain ⟨_, rfl⟩ := ro.inv | obtain ⟨_, _, _, rfl, _, _⟩ := ro.inv | obtain ⟨_, _, rfl, _⟩ := ro.inv | obtain ⟨_, rfl, _⟩ := ro.inv | obtain ⟨_, _, _, rfl, _, _, _, _, _⟩ := ro.inv | obtain ⟨_, _, _, _, rfl, _, _, _, _⟩ := ro.inv | obtain ⟨_, _, _, _, rfl, _, _, _, _, _⟩ := ro.inv | cases ro)
  obtain ⟨nm, q, N, bs, hd, sn, sub, ab, col, dd', k0, k1, k2, k3, k5, rfl, hC⟩ := xc.obj
  have X' := ok.X.keeps S₁.base
  have I : InstAt s₁.heap e (xO C t none) C none := ⟨ho, rfl, rfl, trivial⟩
  have hC' := S₁.base _ _ hC
  have SF := PySem.F.store_object
  refine set_plain X' I xc.set ?_
  have sub : Looks c.M s₁.heap (isInstance (.ref e) (.type "object")) true := I.type.andThen fun A' Q' E' s' kk q => by
    obtain ⟨h2, g2, d2, t2, os2⟩ := s'
    exact wpAny_isSubtype_exc (kk _ _ hC') q
  refine codeAny_call_builtin SF.slot.plain SF.entry (@check_slot c.M _ _ { s₁ with toks := s₁.toks + 1 } "object.__setattr__" "object" "__setattr__" (.ref e) [.str "message" s₁.toks, r] [] _ SF.kind SF.split sub (SF.args (.ref e) (.str "message" s₁.toks) r) ?_)
  refine exc_store (s := { s₁ with toks := s₁.toks + 1 }) ho hC' (looks_findIn X' xc.no) fun h' tk' he hk => ?_
  have S₂ := S₁.putμ (s' := { s₁ with heap := h', toks := tk' }) (m := .exc C t (some s₁.heap.objs.size)) hm rfl rfl hk he .exc
  exact wpAny_release ⟨ρ, _, fz₁, hq _, l1, S₂⟩
theorem meth_exc (ok : CxOk c) : Meth c μ (.raw (.type "Exception")) "__init__" (.builtin "Exception.__init__") [] := fun A env sc ρ X fz s E v pl P r S K => by
  (first | obtain rfl := r.inv | obtain ⟨_, rfl⟩ := r.inv | obtain ⟨_, _, _, rfl, _, _⟩ := r.inv | obtain ⟨_, _, rfl, _⟩ := r.inv | obtain ⟨_, rfl, _⟩ := r.inv | obtain ⟨_, _, _, rfl, _, _, _, _, _⟩ := r.inv | obtain ⟨_, _, _, _, rfl, _, _, _, _⟩ := r.inv | obtain ⟨_, _, _, _, rfl, _, _, _, _, _⟩ := r.inv | cases r)
  obtain ⟨m, news, F, N, hall, hm⟩ := S.fr
  exact method_type (K := []) (h₀ := heap0) (L := env.locals) (m := m) F (fun b o e => nomatch e) (by kernel_rfl) (by decide +kernel) (v := .builtin "Exception.__init__") (by kernel_rfl) rfl (K _ _ .nil)
end
section
variable {c : Cx} {k : Nat} {sc : SC} {ρ : Rho} {μ : Mu} {env : Env} {X fz fz₁ : Led} {s : Shared} {A : Around} {E : Value → Shared → Prop} {C P fI : Addr}
theorem excInit_ok {e : Addr} {t : Value} {x : Str} {Q : PV → Mu → Prop} (ok : CxOk c) (xc : XCls c C P fI) (hE : Glob' c "Exception" (.type "Exception")) (hm : μ e = some (.exc C t none)) (h : ∀ t' d, Q .none (μ.set e (.exc C t' (some d)))) : WC c 1 (.ref fI) [.ptr e, .str x] μ Q := by
  refine WC_def xc.F ok.lim rfl rfl (WSs_cons (WS_Expr rfl ?_))
  refine WE_CallM (.inl rfl) rfl (callee_builtin "Exception.__init__") rfl (by decide) ?_
  refine WE_Glob ok rfl hE rfl ⟨[], meth_exc ok, ?_⟩
  repeat walk_at "st"
  refine WO_excInit xc hm fun t' => ⟨rfl, ?_⟩
  repeat walk_at "st"
  refine WA_AttrX ok ?_
  repeat walk_at "st"
  refine ⟨e, C, P, fI, t', rfl, xc, Mu.set_self .., fun d => WSs_nil ?_⟩
  rw [Mu.set_set]
  exact h t' d
theorem WC_exc {x : Str} {Q : PV → Mu → Prop} (ok : CxOk c) (xc : XCls c C P fI) (hE : Glob' c "Exception" (.type "Exception")) (h : ∀ e t d, μ e = none → Q (.ptr e) (μ.set e (.exc C t (some d)))) : WC c 2 (.ref C) [.str x] μ Q := fun A X fz s vs RR rm ra S K => by
  obtain ⟨v, rfl, r1⟩ := ra.inv1
  obtain ⟨hh, g, d, t, os⟩ := s
  obtain ⟨nm, q, N, bs, hd, sn, sub, ab, col, dd', k0, k1, k2, k3, k5, _, hC⟩ := xc.obj
  have XK := ok.X.keeps S.up
  refine exc_call PySem.F.excBase_Exception (bm := .ref P :: bmE) (by rw [List.contains_cons]; rfl) (by rw [List.contains_cons]; rfl) (by rw [List.contains_cons]; rfl) (S.up _ _ hC) (looks_findIn XK xc.init) (fun self => bind_fn XK self xc.fn) ?_ (by show 1 ≤ sizeLine; rw [sizeLine_eq]; decide)
  have hfe : μ (hh.objs.size + 1) = none := Mu.fresh S (Nat.le_succ _)
  have S₁ : SimX c X fz (μ.set (hh.objs.size + 1) (.exc C (.ref hh.objs.size) none)) ⟨(hh.push { cls := .type "tuple", data := .seq [v].toArray }).push (xO C (.ref hh.objs.size) none), g, d, t, os⟩ := by
    refine S.setμ (o := xO C (.ref hh.objs.size) none) rfl rfl (fun b o' _ e => Heap.get?_push_of_some _ (Heap.get?_push_of_some _ e)) ?_ .exc (Led.fresh S.ex (Nat.le_succ _)) (Led.fresh S.ef (Nat.le_succ _))
    heap_get
  refine (excInit_ok (Q := fun r μ' => r = .none ∧ ∃ t d, μ' = μ.set (hh.objs.size + 1) (.exc C t (some d))) ok xc hE (Mu.set_self ..) fun t' d => ⟨rfl, t', d, Mu.set_set ..⟩) _ X fz _ [.ref (hh.objs.size + 1), v] _ rm.under (.cons (.ptr _) (.cons r1 .nil)) S₁ fun r s' hP => ?_
  obtain ⟨pv, μ', fz', ⟨rfl, t', d', rfl⟩, rv, le, S'⟩ := hP
  (first | obtain rfl := rv.inv | obtain ⟨_, rfl⟩ := rv.inv | obtain ⟨_, _, _, rfl, _, _⟩ := rv.inv | obtain ⟨_, _, rfl, _⟩ := rv.inv | obtain ⟨_, rfl, _⟩ := rv.inv | obtain ⟨_, _, _, rfl, _, _, _, _, _⟩ := rv.inv | obtain ⟨_, _, _, _, rfl, _, _, _, _⟩ := rv.inv | obtain ⟨_, _, _, _, rfl, _, _, _, _, _⟩ := rv.inv | cases rv)
  exact ⟨rfl, K _ _ ⟨_, _, fz', h _ t' d' hfe, .ptr _, le, S'⟩⟩
theorem raise_ok {np cpos pos ap : Pos} {nn : Nat} {x : Str} {Q : Flow → Shared → Prop} (ok : CxOk c) (xc : XCls c C P fI) (hE : Glob' c "Exception" (.type "Exception")) (hS : c.mg "SegmentError" = some (.ref C)) (hk : keepIn c.K (.ref C) = true) (hn : sc.scope.names.lookup ("SegmentError" : Str) = some .globalImplicit)
    (S : Sim c env sc X fz ρ μ s) (rm : Room A 2) (h : ∀ e t d fz' s', μ e = none → Led.le fz fz' → Sim c env sc X fz' ρ (μ.set e (.exc C t (some d))) s' → E (.ref e) s') :
    wpAny c.M A (exec (.Raise (some (.Call (.Name "SegmentError" np) [.Constant (.str x) nn ap] [] cpos)) none pos) env) Q E s := by
  obtain ⟨nm, q, N, bs, hd, sn, sub, ab, col, dd', k0, k1, k2, k3, k5, _, hC⟩ := xc.obj
  have main : WE c 2 sc ρ μ (.Call (.Name "SegmentError" np) [.Constant (.str x) nn ap] [] cpos) (fun v μ' => ∃ e t d, v = .ptr e ∧ μ e = none ∧ μ' = μ.set e (.exc C t (some d))) :=
    WE_CallN ok hn (.inl hS) rfl (callee_cls ok hk) rfl (WEs_cons rfl (WE_str (WEs_nil (WO_call (WC_exc ok xc hE fun e t d he => ⟨e, t, d, rfl, he, rfl⟩)))))
  have hcB : (Value.ref C :: .ref P :: bmE).contains (.type "BaseException") = true := by rw [List.contains_cons, List.contains_cons]; rfl
  rw [arm_exec_Raise]
  show wpAny _ _ (standAt pos >>= _) _ _ _
  refine wpAny_bind (wpAny_standAt ?_)
  unfold raiseStmt
  refine wpAny_bind (wpAny_bind (main.use S rm fun v pv μ' fz' s' hq rv le S' => wpAny_bind (wpAny_standAt (wpAny_pure ?_))))
  obtain ⟨e, t, d, rfl, he0, rfl⟩ := hq
  (first | obtain rfl := rv.inv | obtain ⟨_, rfl⟩ := rv.inv | obtain ⟨_, _, _, rfl, _, _⟩ := rv.inv | obtain ⟨_, _, rfl, _⟩ := rv.inv | obtain ⟨_, rfl, _⟩ := rv.inv | obtain ⟨_, _, _, rfl, _, _, _, _, _⟩ := rv.inv | obtain ⟨_, _, _, _, rfl, _, _, _, _⟩ := rv.inv | obtain ⟨_, _, _, _, rfl, _, _, _, _, _⟩ := rv.inv | cases rv)
  obtain ⟨o, ho, ro, _⟩ := S'.x.mu e _ (Mu.set_self ..)
  (first | obtain rfl := ro.inv | obtain ⟨_, rfl⟩ := ro.inv | obtain ⟨_, _, _, rfl, _, _⟩ := ro.inv | obtain ⟨_, _, rfl, _⟩ := ro.inv | obtain ⟨_, rfl, _⟩ := ro.inv | obtain ⟨_, _, _, rfl, _, _, _, _, _⟩ := ro.inv | obtain ⟨_, _, _, _, rfl, _, _, _, _⟩ := ro.inv | obtain ⟨_, _, _, _, rfl, _, _, _, _, _⟩ := ro.inv | cases ro)
  have hC' := S'.base _ _ hC
  obtain ⟨hp, g, dr, tk, os⟩ := s'
  repeat (first | with_reducible refine wpAny_loadPart_at ho ?_ | with_reducible refine wpAny_loadPart_at hC' ?_ | (with_reducible refine wpAny_isSubtype_exc hC' ?_; rw [hcB]) | wp_step)
  exact wpAny_raiseNew_none rm.1 (h e t d fz' _ he0 le S')
end
section
variable {c : Cx} {k : Nat} {sc : SC} {ρ : Rho} {μ : Mu} {env : Env} {X fz fz₁ : Led} {s : Shared} {A : Around} {E : Value → Shared → Prop}
theorem WO_lenB {b : Array UInt8} {Q : PV → Mu → Prop} (hl : b.size ≤ 1000000) (h : Q (.int b.size) μ) : WO c k (cl (.builtin "len")) [.bytes b] μ Q := fun A env sc ρ X fz s E vs rm ra S => by
  obtain ⟨v, rfl, r1⟩ := ra.inv1; (first | obtain rfl := r1.inv | obtain ⟨_, rfl⟩ := r1.inv | obtain ⟨_, _, _, rfl, _, _⟩ := r1.inv | obtain ⟨_, _, rfl, _⟩ := r1.inv | obtain ⟨_, rfl, _⟩ := r1.inv | obtain ⟨_, _, _, rfl, _, _, _, _, _⟩ := r1.inv | obtain ⟨_, _, _, _, rfl, _, _, _, _⟩ := r1.inv | obtain ⟨_, _, _, _, rfl, _, _, _, _, _⟩ := r1.inv | cases r1)
  exact len_bytes (by lia) ((S.toks _).pe (.int _ _) h)
theorem WE_bytes {x : List UInt8} {n : Nat} {pos : Pos} {Q : PV → Mu → Prop} (h : Q (.bytes x.toArray) μ) : WE c k sc ρ μ (.Constant (.bytes x) n pos) Q := fun A env X fz s E r S => Constant_bytes ((S.toks _).pe (.bytes _ _) h)
theorem WO_addB {a b : Array UInt8} {Q : PV → Mu → Prop} (hl : a.size + b.size ≤ 1000000) (h : Q (.bytes (a ++ b)) μ) : WO c k (t2 (binaryOp .Add)) [.bytes a, .bytes b] μ Q := fun A env sc ρ X fz s E vs rm ra S => by
  obtain ⟨v, w, rfl, r1, r2⟩ := ra.inv2; (first | obtain rfl := r1.inv | obtain ⟨_, rfl⟩ := r1.inv | obtain ⟨_, _, _, rfl, _, _⟩ := r1.inv | obtain ⟨_, _, rfl, _⟩ := r1.inv | obtain ⟨_, rfl, _⟩ := r1.inv | obtain ⟨_, _, _, rfl, _, _, _, _, _⟩ := r1.inv | obtain ⟨_, _, _, _, rfl, _, _, _, _⟩ := r1.inv | obtain ⟨_, _, _, _, rfl, _, _, _, _, _⟩ := r1.inv | cases r1); (first | obtain rfl := r2.inv | obtain ⟨_, rfl⟩ := r2.inv | obtain ⟨_, _, _, rfl, _, _⟩ := r2.inv | obtain ⟨_, _, rfl, _⟩ := r2.inv | obtain ⟨_, rfl, _⟩ := r2.inv | obtain ⟨_, _, _, rfl, _, _, _, _, _⟩ := r2.inv | obtain ⟨_, _, _, _, rfl, _, _, _, _⟩ := r2.inv | obtain ⟨_, _, _, _, rfl, _, _, _, _, _⟩ := r2.inv | cases r2)
  exact PySem.W.KBy.add_bytes (by lia) fun t' k' => (S.toks _).pe (.bytes _ _) h
theorem WO_eqB {a : Array UInt8} {Q : PV → Mu → Prop} (h : Q (.bool true) μ) : WO c k (t2 (compareOp .Eq)) [.bytes a, .bytes a] μ Q := fun A env sc ρ X fz s E vs rm ra S => by
  obtain ⟨v, w, rfl, r1, r2⟩ := ra.inv2; (first | obtain rfl := r1.inv | obtain ⟨_, rfl⟩ := r1.inv | obtain ⟨_, _, _, rfl, _, _⟩ := r1.inv | obtain ⟨_, _, rfl, _⟩ := r1.inv | obtain ⟨_, rfl, _⟩ := r1.inv | obtain ⟨_, _, _, rfl, _, _, _, _, _⟩ := r1.inv | obtain ⟨_, _, _, _, rfl, _, _, _, _⟩ := r1.inv | obtain ⟨_, _, _, _, rfl, _, _, _, _, _⟩ := r1.inv | cases r1); (first | obtain rfl := r2.inv | obtain ⟨_, rfl⟩ := r2.inv | obtain ⟨_, _, _, rfl, _, _⟩ := r2.inv | obtain ⟨_, _, rfl, _⟩ := r2.inv | obtain ⟨_, rfl, _⟩ := r2.inv | obtain ⟨_, _, _, rfl, _, _, _, _, _⟩ := r2.inv | obtain ⟨_, _, _, _, rfl, _, _, _, _⟩ := r2.inv | obtain ⟨_, _, _, _, rfl, _, _, _, _, _⟩ := r2.inv | cases r2)
  refine eq_bytes ?_
  rw [beq_self_eq_true]
  exact S.pe (.bool _) h
theorem ints_iL {ns : List Int} {vs : List Value} (h : RA c fz vs (ns.map .int)) : IntsAre vs ns := by
  induction ns generalizing vs with
  | nil => cases h; exact .nil
  | cons n ns ih => cases h with | cons a b => cases a; exact .cons _ _ (ih b)
theorem WO_mkB {ns : List Int} {Q : PV → Mu → Prop} (hr : ∀ n ∈ ns, 0 ≤ n ∧ n < 256) (hl : ns.length ≤ 1000) (h : Q (.bytes (byteArr ns)) μ) : WO c k (cl (.type "bytes")) [.list (ns.map .int)] μ Q := fun A env sc ρ X fz s E vs rm ra S => by
  obtain ⟨v, rfl, r1⟩ := ra.inv1; (first | obtain rfl := r1.inv | obtain ⟨_, rfl⟩ := r1.inv | obtain ⟨_, _, _, rfl, _, _⟩ := r1.inv | obtain ⟨_, _, rfl, _⟩ := r1.inv | obtain ⟨_, rfl, _⟩ := r1.inv | obtain ⟨_, _, _, rfl, _, _, _, _, _⟩ := r1.inv | obtain ⟨_, _, _, _, rfl, _, _, _, _⟩ := r1.inv | obtain ⟨_, _, _, _, rfl, _, _, _, _, _⟩ := r1.inv | cases r1)
  rename_i a ws n ha ra1
  have e := ra1.length
  refine call_bytes_ints ⟨_, S.x.ef _ _ ha, rfl, _, rfl⟩ (ints_iL ra1) hr (by rw [e, List.length_map, sizeLine_eq]; lia) rm.1 fun h' t k' hk => ?_
  exact (S.keep (s' := { s with heap := h', toks := k' }) rfl rfl hk).pe (.bytes _ _) h
theorem WE_SubB {value slice : Expr} {pos : Pos} {Q : PV → Mu → Prop} (h : WE c k sc ρ μ value (fun o μ₁ => WE c k sc ρ μ₁ slice (fun i μ₂ => ∃ (l : List UInt8) (j : Nat), o = .bytes l.toArray ∧ i = .int j ∧ j < l.length ∧ l.length ≤ 1000 ∧ Q (.int ((l.getD j 0).toNat : Nat)) μ₂))) :
    WE c k sc ρ μ (.Subscript value slice pos) Q := fun A env X fz s E rm S => by
  refine Subscript_ (h.use S rm fun ov po μ' fz' s' h₁ ro l1 S' => h₁.use S' rm fun iv pi μ₂ fz₂ s₂ h₂ ri l2 S₂ => ?_)
  obtain ⟨l, j, rfl, rfl, hj, hl, hq⟩ := h₂
  (first | obtain rfl := ro.inv | obtain ⟨_, rfl⟩ := ro.inv | obtain ⟨_, _, _, rfl, _, _⟩ := ro.inv | obtain ⟨_, _, rfl, _⟩ := ro.inv | obtain ⟨_, rfl, _⟩ := ro.inv | obtain ⟨_, _, _, rfl, _, _, _, _, _⟩ := ro.inv | obtain ⟨_, _, _, _, rfl, _, _, _, _⟩ := ro.inv | obtain ⟨_, _, _, _, rfl, _, _, _, _, _⟩ := ro.inv | cases ro)
  (first | obtain rfl := ri.inv | obtain ⟨_, rfl⟩ := ri.inv | obtain ⟨_, _, _, rfl, _, _⟩ := ri.inv | obtain ⟨_, _, rfl, _⟩ := ri.inv | obtain ⟨_, rfl, _⟩ := ri.inv | obtain ⟨_, _, _, rfl, _, _, _, _, _⟩ := ri.inv | obtain ⟨_, _, _, _, rfl, _, _, _, _⟩ := ri.inv | obtain ⟨_, _, _, _, rfl, _, _, _, _, _⟩ := ri.inv | cases ri)
  refine upE (l1.trans l2) (subTail (T := "bytes") rfl FB.slot_bytes_getitem.lookup (getItem_bytes (by lia) (by lia) (by lia) ?_))
  rw [Int.toNat_natCast]
  exact (S₂.toks _).pe (.int _ _) hq
theorem WT_orC {x y : Expr} {es : List Expr} {pos pos' : Pos} {Q : Bool → Mu → Prop} (h : WT c k sc ρ μ x (fun b μ₁ => (b = false → WT c k sc ρ μ₁ (.BoolOp .Or (y :: es) pos') Q) ∧ (b = true → Q true μ₁))) : WT c k sc ρ μ (.BoolOp .Or (x :: y :: es) pos) Q :=
  fun A env X fz s E rm S => by
    show wpAny _ A (allTrue .Or (x :: y :: es) env) _ _ _
    refine wpAny_bind (m := isTrue x env (eval x env)) (h.use S rm fun v μ' fz' s' h₁ l1 S' => ?_)
    cases v with
    | true => exact wpAny_pure ⟨μ', fz', h₁.2 rfl, l1, S'⟩
    | false => exact wpAny_mono (h₁.1 rfl A env X fz' s' E rm S') (fun b s'' hb => hb.up l1) fun _ _ x => x
end
structure Segs (c : Cx) : Prop where
  hC : c.mg "SegmentError" = some (.ref 268)
  x : XCls c 268 255 252
  k : keepIn c.K (.ref 268) = true
  e : Glob' c "Exception" (.type "Exception")
section
variable {c : Cx} {k : Nat} {μ : Mu} {Q : PV → Mu → Prop} {X fz : Led} {s : Shared} {A : Around}
noncomputable abbrev readS : SC := scD (stAt 66)
theorem fdiv_nat' (x : Nat) : (x : Int).fdiv 16 = ((x / 16 : Nat) : Int) := by rw [Int.fdiv_eq_ediv_of_nonneg _ (by decide)]; rfl
theorem fmod_nat' (x : Nat) : (x : Int).fmod 16 = ((x % 16 : Nat) : Int) := by rw [Int.fmod_eq_emod_of_nonneg _ (by decide)]; rfl
noncomputable def badP (l : List UInt8) : Bool := l.length != 1 || decide ((l.getD 0 0).toNat / 16 > 1) || decide ((l.getD 0 0).toNat % 16 > 1)
theorem read_test (pg : Pg c) {l : List UInt8} (hl : l.length ≤ 1000) {Q : Bool → Mu → Prop} (h : Q (badP l) μ) : WT c k readS [("payload", .bytes l.toArray)] μ (testOf (((fBody (stAt 66))[0]?).getD (stAt 0))) Q := by
  refine WT_orC (pos' := { line := 0, col := 0, endLine := 0, endCol := 0 }) (WT_Compare rfl ?_)
  walk_at "go"
  refine WO_lenB (by simpa using by lia) ?_
  walk_at "go"
  refine ⟨_, rfl, fun e1 => ?_, fun e1 => ?_⟩
  · have hl1 : l.length = 1 := by
      have : ((l.length : Int) != 1) = false := by simpa using e1
      rw [bne_eq_false_iff_eq] at this; lia
    refine WT_or (WT_Compare rfl (WE_BinOp (WE_SubB ?_)))
    walk_at "go"
    refine ⟨l, 0, rfl, rfl, by lia, hl, ?_⟩
    walk_at "go"
    refine WO_fdiv (by decide) (by decide) ?_
    rw [fdiv_nat']
    walk_at "go"
    refine ⟨_, rfl, fun e2 => ?_, fun e2 => ?_⟩
    · refine WT_Compare rfl (WE_BinOp (WE_SubB ?_))
      walk_at "go"
      refine ⟨l, 0, rfl, rfl, by lia, hl, ?_⟩
      walk_at "go"
      refine WO_fmod (by decide) ?_
      rw [fmod_nat']
      walk_at "go"
      refine ⟨_, rfl, ?_⟩
      have : badP l = decide ((((l.getD 0 0).toNat % 16 : Nat) : Int) > 1) := by
        unfold badP
        rw [hl1]
        have e3 : ¬ (l.getD 0 0).toNat / 16 > 1 := by have := of_decide_eq_false e2; lia
        simp only [bne_self_eq_false, Bool.false_or, decide_eq_false e3]
        congr 1; apply propext; lia
      rw [this] at h; exact h
    · have : badP l = true := by
        unfold badP
        have e3 : (l.getD 0 0).toNat / 16 > 1 := by have := of_decide_eq_true e2; lia
        rw [decide_eq_true e3, Bool.or_true, Bool.true_or]
      rw [this] at h; exact h
  · have : badP l = true := by
      unfold badP
      have : (l.length != 1) = true := by
        have : ((l.length : Int) != 1) = true := by simpa using e1
        rw [bne_iff_ne] at this ⊢; lia
      rw [this, Bool.true_or, Bool.true_or]
    rw [this] at h; exact h
theorem read_ok (pg : Pg c) {l : List UInt8} (hl : l.length ≤ 1000) (hb : badP l = false) (h : Q (.tuple [.bool ((((l.getD 0 0).toNat / 16 : Nat) : Int) == 1), .bool ((((l.getD 0 0).toNat % 16 : Nat) : Int) == 1)]) μ) : WC c 1 (.ref 602) [.bytes l.toArray] μ Q := by
  have hl1 : l.length = 1 := by
    unfold badP at hb
    simp only [Bool.or_eq_false_iff, bne_eq_false_iff_eq] at hb
    exact hb.1.1
  refine WC_def pg.F66 pg.ok.lim rfl rfl (WSs_cons (WS_If (read_test pg hl ⟨fun e => ?_, fun _ => ?_⟩)))
  · rw [hb] at e; cases e
  refine WSs_nil (WSs_cons (WS_Return (WE_Tuple (WEs_cons rfl (WE_Compare rfl (WE_BinOp (WE_SubB ?_)))))))
  walk_at "go"
  refine ⟨l, 0, rfl, rfl, by lia, hl, ?_⟩
  walk_at "go"
  refine WO_fdiv (by decide) (by decide) ?_
  rw [fdiv_nat']
  refine WE_int (WO_eq (WEs_cons rfl (WE_Compare rfl (WE_BinOp (WE_SubB ?_)))))
  walk_at "go"
  refine ⟨l, 0, rfl, rfl, by lia, hl, ?_⟩
  walk_at "go"
  refine WO_fmod (by decide) ?_
  rw [fmod_nat']
  walk_at "go"
  exact ⟨by simp, h⟩
theorem write_ok (pg : Pg c) {a b : Bool} (h : Q (.bytes (byteArr [16 * (if a then 1 else 0) + (if b then 1 else 0)])) μ) : WC c 1 (.ref 595) [.bool a, .bool b] μ Q := by
  refine WC_def pg.F65 pg.ok.lim rfl rfl (WSs_cons ?_)
  walk_at "go"
  refine WO_mul (.inl (by decide)) ?_
  walk_at "go"
  refine ⟨by simp, ?_⟩
  walk_at "go"
  refine WO_mkB (ns := [16 * (if a then 1 else 0) + (if b then 1 else 0)]) (fun n hn => ?_) (by simp) h
  rw [List.mem_singleton] at hn
  subst hn
  cases a <;> cases b <;> decide
end
section
variable {c : Cx} {k : Nat} {sc : SC} {ρ : Rho} {env : Env} {X fz : Led} {s s' : Shared} {A : Around} {E : Value → Shared → Prop} {outer : List Env}
noncomputable abbrev μ0 : Mu := fun _ => none
noncomputable def frs (l : List Env) : List Addr := l.filterMap (·.frame)
theorem keepAll {μ : Mu} {fz' : Led} {ρ' : Rho} {env' : Env} {sc' : SC} (S : SimX c X fz μ0 s) (S' : Sim c env' sc' (rest s.heap fz μ0) fz' ρ' μ s') (le : Led.le fz fz') : ∀ b o, s.heap.get? b = some o → s'.heap.get? b = some o := fun b o e => by
  cases q : fz b with
  | some o' =>
    have := S.ef b o' q
    rw [e] at this; cases this
    exact S'.x.ef b _ (le _ _ q)
  | none => exact S'.x.ex b o (rest_of e rfl q)
theorem read_raises (pg : Pg c) (sg : Segs c) {l : List UInt8} {t : Tok} {RR : Result → Shared → Prop} (hl : l.length ≤ 1000) (hb : badP l = true) (rm : Room A 3) (hA : A.frames = some outer) (S : SimX c X fz μ0 s) (hfr : s.heap.FunFrames (hideAll s.heap (frs outer)) outer)
    (K : ∀ e a0 s', Heap.FlyingW (hideAll s.heap (frs outer)) outer e (.ref 268) a0 s'.heap → s.heap.UpToSlots s'.heap → s'.gens = s.gens → s'.os = s.os → RR (.error (.ref e)) s') :
    codeAny c.M A (.call (.ref 602) ⟨[.bytes l.toArray t], []⟩) RR s := by
  refine call_def pg.F66 pg.ok.lim rfl rfl rm (.cons (.bytes _ _) .nil) S fun env s₁ hef hL hkp S₁ => ?_
  have rm' : Room (A.deeper env) 2 := rm.deeper
  refine wpAny_execs_cons (wpAny_If ((read_test (k := 0) pg hl (Q := fun b m => b = true ∧ m = μ0) ⟨hb, rfl⟩).use S₁ (rm'.le (by decide)) fun v m fz' s' hq le S' => ?_))
  obtain ⟨rfl, rfl⟩ := hq
  refine wpAny_execs_cons (raise_ok pg.ok sg.x sg.e sg.hC sg.k rfl S' rm' fun e t d fz'' s'' he0 le' S'' => ?_)
  obtain ⟨o, ho, ro, hX, hf⟩ := S''.x.mu e _ (Mu.set_self ..)
  (first | obtain rfl := ro.inv | obtain ⟨_, rfl⟩ := ro.inv | obtain ⟨_, _, _, rfl, _, _⟩ := ro.inv | obtain ⟨_, _, rfl, _⟩ := ro.inv | obtain ⟨_, rfl, _⟩ := ro.inv | obtain ⟨_, _, _, rfl, _, _, _, _, _⟩ := ro.inv | obtain ⟨_, _, _, _, rfl, _, _, _, _⟩ := ro.inv | obtain ⟨_, _, _, _, rfl, _, _, _, _, _⟩ := ro.inv | cases ro)
  have hk := keepAll S S'' (le.trans le')
  have hbase : ∀ {b o}, (hideAll s.heap (frs outer)).get? b = some o → s.heap.get? b = some o := fun {b o} e => of_hideAll _ e
  obtain ⟨m, hn, _⟩ := S''.e.ns
  have hen : (hideAll s.heap (frs outer)).get? e = none := by
    cases q : (hideAll s.heap (frs outer)).get? e with
    | none => rfl
    | some o =>
      exfalso
      have q' := hbase q
      cases q2 : fz e with
      | some o' => have := (le.trans le') e o' q2; rw [hf] at this; cases this
      | none => rw [rest_of q' rfl q2] at hX; cases hX
  refine wpAny_leaving_firstW (base := hideAll s.heap (frs outer)) (a0 := t) (Around.frames_deeper hA) (.cons (by rw [S''.fn]; decide) hef hn ?_ (hfr.of_keeps fun b o e _ => ⟨o, hk b o e, rfl⟩)) hef ho (fun b o e => hk b o (hbase e)) hen rfl rfl rfl fun h' hLW => ?_
  · cases q : (hideAll s.heap (frs outer)).get? env.locals with
    | none => rfl
    | some o => exact absurd (Heap.lt_size (hbase q)) (by rw [hL]; exact Nat.lt_irrefl _)
  · obtain ⟨k1, ⟨_, _, k2⟩, k3, k4⟩ := hLW
    exact K e t _ ⟨k1, hen, k2, k3⟩ ((Heap.UpToSlots.of_keeps hk).trans k4) (S''.x.g.trans S.g.symm) (S''.x.os.trans S.os.symm)

noncomputable def noCells (sc : SC) : Bool := sc.scope.names.all (fun p => p.2 != .cell && p.2 != .free) && sc.own.isEmpty
theorem kind_not {x : Str} (S : Sim c env sc X fz ρ μ0 s) (hnc : noCells sc = true) (h : env.kindOf x = some .cell ∨ env.kindOf x = some .free) : False := by
  unfold noCells at hnc
  rw [Bool.and_eq_true, List.all_eq_true] at hnc
  have hk : ∀ kd, env.kindOf x = some kd → (x, kd) ∈ sc.scope.names := fun kd e => by
    have e' : sc.scope.names.lookup x = some kd := by rw [← S.ok.scope]; exact e
    exact mem_of_lookup e'
  rcases h with h | h
  · have := hnc.1 _ (hk _ h); simp at this
  · have := hnc.1 _ (hk _ h); simp at this
theorem Sim.caught {h' : Heap} {base : Heap} (S : Sim c env sc X fz ρ μ0 s) (hnc : noCells sc = true) (hst : base.StaysIn h') (hb : ∀ b o, s.heap.get? b = some o → b ∉ frs outer → base.get? b = some o)
    (hfr : ∀ b ∈ frs outer, X b = none ∧ fz b = none) (hsl : s.heap.UpToSlots h') (hg : s'.gens = s.gens) (ho : s'.os = s.os) (hh : s'.heap = h') : Sim c env sc X fz ρ μ0 s' := by
  subst hh
  have keep : ∀ b o, s.heap.get? b = some o → b ∉ frs outer → s'.heap.get? b = some o := fun b o e n => hst _ _ (hb b o e n)
  have hown : sc.own = [] := by
    unfold noCells at hnc
    rw [Bool.and_eq_true] at hnc
    exact List.isEmpty_iff.mp hnc.2
  obtain ⟨m, hn, hm⟩ := S.e.ns
  refine ⟨⟨hg.trans S.x.g, ho.trans S.x.os, S.x.base, fun b o e => keep b o (S.x.ex b o e) fun hm => ?_, fun b o e => keep b o (S.x.ef b o e) fun hm => ?_, (fun a mo e => nomatch e), S.x.xf⟩,
    ⟨⟨m, hsl.ns hn, hm⟩, S.e.free, fun x v e => (kind_not S hnc e).elim, fun x e => (kind_not S hnc e).elim, fun x hx => ?_, S.e.inj, S.e.kind⟩, S.ok⟩
  · have := (hfr b hm).1; rw [e] at this; cases this
  · have := (hfr b hm).2; rw [e] at this; cases this
  · rw [hown] at hx; cases hx
theorem lands {e : Addr} {a0 : Value} {np pos : Pos} {b₀ : Stmt} {suite : List Stmt} {rest : List ExceptHandler} {Q : Flow → Shared → Prop} (ok : CxOk c) (sg : Segs c) (S : Sim c env sc X fz ρ μ0 s) (hnc : noCells sc = true) (hn : sc.scope.names.lookup ("SegmentError" : Str) = some .globalImplicit)
    (hA : A.frames = some (env :: outer)) (hef : env.frame = some env.locals) (hfr : ∀ b ∈ frs (env :: outer), X b = none ∧ fz b = none)
    (hfl : Heap.FlyingW (hideAll s.heap (frs (env :: outer))) (env :: outer) e (.ref 268) a0 s'.heap) (hsl : s.heap.UpToSlots s'.heap) (hg : s'.gens = s.gens) (ho : s'.os = s.os)
    (K : ∀ h' E', Sim c env sc X fz ρ μ0 { s' with heap := h' } → s.heap.UpToSlots h' → wpAny c.M (A.mark (some (.ref e))) (execs (b₀ :: suite) env) Q E' { s' with heap := h' }) :
    wpAny c.M A (noteFrame (.ref e) env) (fun _ s₂ => wpAny c.M A (setFlight (.ref e) none) (fun _ s₃ => wpAny c.M A (handleBy (.ref e) env (.ExceptHandler (some (.Name "SegmentError" np)) none (b₀ :: suite) pos :: rest)) Q E s₃) E s₂) E s' := by
  obtain ⟨nm, q, N, bs, hd, sn, sub, ab, col, dd', k0, k1, k2, k3, k5, _, hC⟩ := sg.x.obj
  refine wpAny_looks_onW hA hef hfl fun h₄ hheld₄ hsm₄ => ?_
  refine wpAny_landsW hheld₄ fun h₅ hheld hsm₅ => ?_
  have hb : ∀ b o, s.heap.get? b = some o → b ∉ frs (env :: outer) → (hideAll s.heap (frs (env :: outer))).get? b = some o := fun b o e n => hideAll_get _ e n
  have S₅ : Sim c env sc X fz ρ μ0 { s' with heap := h₅ } := S.caught hnc hheld.1 hb hfr ((hsl.trans hsm₄).trans hsm₅) hg ho rfl
  obtain ⟨ob, hob, hobc⟩ := hheld.there
  refine wpAny_handleBy_cons (codeAny_handlers_test (Name_function_global S₅.fn (S₅.kind hn) (loadGlobal_global (by rw [S₅.ok.glob]; exact ok.g.keeps S₅.base) sg.hC ?_) rfl)) (by intro q; cases q)
  refine wpAny_excMatches_sub_self (S₅.base _ _ hC) hob hobc (by rw [List.contains_cons]; rfl) (codeAny_handlers_suite ?_)
  refine lands_againW hheld fun h₆ hfl₆ hsm₆ => ?_
  exact K h₆ _ (S.caught hnc hfl₆.1 hb hfr (((hsl.trans hsm₄).trans hsm₅).trans hsm₆) hg ho rfl) (((hsl.trans hsm₄).trans hsm₅).trans hsm₆)
end
section
variable {c : Cx} {k : Nat} {sc : SC} {ρ : Rho} {env : Env} {X fz : Led} {s s' : Shared} {A : Around} {E : Value → Shared → Prop} {outer : List Env}
structure Oct (c : Cx) (env : Env) (sc : SC) (X fz : Led) (ρ : Rho) (outer : List Env) (s : Shared) : Prop where
  S : Sim c env sc X fz ρ μ0 s
  F : s.heap.FunFrames c.h₀ outer
  fr : ∀ b ∈ frs outer, X b = none ∧ fz b = none ∧ b ≠ env.locals
  nc : noCells sc = true
  ef : env.frame = some env.locals
noncomputable def XF (X : Led) (outer : List Env) (h : Heap) : Led := fun b => if b ∈ frs outer then h.get? b else X b
theorem Oct.up (O : Oct c env sc X fz ρ outer s) : Sim c env sc (XF X outer s.heap) fz ρ μ0 s := by
  have hown : sc.own = [] := by
    have := O.nc
    unfold noCells at this
    rw [Bool.and_eq_true] at this
    exact List.isEmpty_iff.mp this.2
  refine O.S.moreX (fun b o e => ?_) (fun b o e => ?_) ?_ (fun x a hx => by rw [hown] at hx; cases hx) (fun a mo e => nomatch e) (fun b o e => ?_)
  · unfold XF
    rw [if_neg]
    · exact e
    · intro hm; rw [(O.fr b hm).1] at e; cases e
  · unfold XF at e
    split at e
    · exact e
    · exact O.S.x.ex b o e
  · unfold XF
    rw [if_neg]
    · exact O.S.e.free.1
    · intro hm; exact (O.fr _ hm).2.2 rfl
  · unfold XF at e
    split at e
    · rename_i hm; exact (O.fr b hm).2.1
    · exact O.S.x.xf b o e
theorem Oct.down {fz' : Led} {ρ' : Rho} {μ' : Mu} (O : Oct c env sc X fz ρ outer s) (S' : Sim c env sc (XF X outer s.heap) fz' ρ' μ' s') : Oct c env sc X fz' ρ' outer s' := by
  have le : Led.le X (XF X outer s.heap) := fun b o e => by
    unfold XF
    rw [if_neg]
    · exact e
    · intro hm; rw [(O.fr b hm).1] at e; cases e
  have S'' := (O.S.lessX S' le).weak (ρ' := ρ') (μ' := μ0) (fun _ _ e => e) (fun _ _ e => nomatch e)
  have hk : ∀ b o, b ∈ frs outer → s.heap.get? b = some o → XF X outer s.heap b = some o := fun b o hm e => by unfold XF; rw [if_pos hm]; exact e
  refine ⟨S'', ?_, fun b hm => ⟨(O.fr b hm).1, ?_, (O.fr b hm).2.2⟩, O.nc, O.ef⟩
  · have : ∀ l, (∀ b ∈ frs l, b ∈ frs outer) → s.heap.FunFrames c.h₀ l → s'.heap.FunFrames c.h₀ l := by
      intro l
      induction l with
      | nil => intro _ _; trivial
      | cons e l ih =>
        intro hsub ⟨h1, ⟨L, o, h2, h3, h4, h5⟩, h6⟩
        have hm : L ∈ frs (e :: l) := by unfold frs; rw [List.filterMap_cons, h2]; exact .head _
        refine ⟨h1, ⟨L, o, h2, h3, S'.x.ex _ _ (hk L o (hsub _ hm) h4), h5⟩, ih (fun b hb => hsub b ?_) h6⟩
        unfold frs at hb ⊢; rw [List.filterMap_cons, h2]; exact .tail _ hb
    exact this outer (fun _ h => h) O.F
  · obtain ⟨_, o, ho, _⟩ := O.F.mem hm
    exact S'.x.xf b o (hk b o hm ho)
theorem Oct.caught {h' : Heap} (O : Oct c env sc X fz ρ outer s) (S' : Sim c env sc X fz ρ μ0 { s' with heap := h' }) (hsl : s.heap.UpToSlots h') : Oct c env sc X fz ρ outer { s' with heap := h' } :=
  ⟨S', O.F.of_keeps fun b o e hn => let ⟨sl, q⟩ := hsl b o e hn; ⟨_, q, rfl⟩, O.fr, O.nc, O.ef⟩
theorem Oct.frames (O : Oct c env sc X fz ρ outer s) : (∀ b ∈ frs (env :: outer), X b = none ∧ fz b = none) ∧ s.heap.FunFrames (hideAll s.heap (frs (env :: outer))) (env :: outer) := by
  constructor
  · intro b hb
    unfold frs at hb
    rw [List.filterMap_cons, O.ef] at hb
    rcases List.mem_cons.mp hb with rfl | hb
    · exact ⟨O.S.e.free.1, O.S.e.free.2.1⟩
    · exact ⟨(O.fr b hb).1, (O.fr b hb).2.1⟩
  · obtain ⟨m, hn, _⟩ := O.S.e.ns
    have hnew : c.h₀.get? env.locals = none := by
      cases q : c.h₀.get? env.locals with
      | none => rfl
      | some o => have := O.S.x.base _ _ q; rw [O.S.e.free.1] at this; cases this
    exact funFrames_hide (base := c.h₀) (.cons (by rw [O.S.fn]; decide) O.ef hn hnew O.F) fun e he a ha => List.mem_filterMap.mpr ⟨e, he, ha⟩
theorem call_raises {np pos ap : Pos} {y : Str} {l : List UInt8} {Q : Value → Shared → Prop} (pg : Pg c) (sg : Segs c) (O : Oct c env sc X fz ρ outer s) (rm : Room A 3) (hA : A.frames = some (env :: outer)) (hl : l.length ≤ 1000) (hb : badP l = true)
    (hk : sc.scope.names.lookup ("read_expand" : Str) = some .globalImplicit) (hy : sc.scope.names.lookup y = some .local) (hr : ρ.lookup y = some (.bytes l.toArray)) (hd : (y == ("__debug__" : Str)) = false) (hc : (y == ("__classdict__" : Str)) = false)
    (h : ∀ e a0 fz' s₁ s', Oct c env sc X fz' ρ outer s₁ → Led.le fz fz' → Heap.FlyingW (hideAll s₁.heap (frs (env :: outer))) (env :: outer) e (.ref 268) a0 s'.heap → s₁.heap.UpToSlots s'.heap → s'.gens = s₁.gens → s'.os = s₁.os → E (.ref e) s') :
    wpAny c.M A (eval (.Call (.Name "read_expand" np) [.Name y ap] [] pos) env) Q E s := by
  refine Call_ ((WE_Glob (k := 3) (Q := fun w μ' => w = .raw (.ref 602) ∧ μ' = μ0) pg.ok hk pg.g66 rfl ⟨rfl, rfl⟩).use O.up rm fun w pw μ' fz' s' h₁ rw' l1 S' => ?_)
  obtain ⟨rfl, rfl⟩ := h₁
  (first | obtain rfl := rw'.inv | obtain ⟨_, rfl⟩ := rw'.inv | obtain ⟨_, _, _, rfl, _, _⟩ := rw'.inv | obtain ⟨_, _, rfl, _⟩ := rw'.inv | obtain ⟨_, rfl, _⟩ := rw'.inv | obtain ⟨_, _, _, rfl, _, _, _, _, _⟩ := rw'.inv | obtain ⟨_, _, _, _, rfl, _, _, _, _⟩ := rw'.inv | obtain ⟨_, _, _, _, rfl, _, _, _, _, _⟩ := rw'.inv | cases rw')
  refine callWith_any rfl (callee_fn pg.F66) (WEs_cons (k := 3) (Q := fun ps m => ps = [.bytes l.toArray] ∧ m = μ0) rfl (WE_Name hy hr (WEs_nil ⟨rfl, rfl⟩) (.inl rfl) hd hc)) S' rm fun vs ps μ₂ fz₂ s₂ h₂ ra l2 S₂ => ?_
  obtain ⟨rfl, rfl⟩ := h₂
  obtain ⟨v, rfl, r1⟩ := ra.inv1
  (first | obtain rfl := r1.inv | obtain ⟨_, rfl⟩ := r1.inv | obtain ⟨_, _, _, rfl, _, _⟩ := r1.inv | obtain ⟨_, _, rfl, _⟩ := r1.inv | obtain ⟨_, rfl, _⟩ := r1.inv | obtain ⟨_, _, _, rfl, _, _, _, _, _⟩ := r1.inv | obtain ⟨_, _, _, _, rfl, _, _, _, _⟩ := r1.inv | obtain ⟨_, _, _, _, rfl, _, _, _, _, _⟩ := r1.inv | cases r1)
  have O₂ := O.down S₂
  refine wpAny_call (read_raises pg sg hl hb rm hA O₂.S.x O₂.frames.2 fun e a0 s' hf hs hg ho => ?_)
  exact h e a0 fz₂ s₂ s' O₂ (l1.trans l2) hf hs hg ho
end
section
variable {c : Cx} {k : Nat} {μ : Mu} {Q : PV → Mu → Prop}
theorem descaled_ok {fv : Addr} {n : Int} (ok : CxOk c) (F : FnD c (stAt 15) fv ["number", "bits"]) (h : Q (.int ((n + 1).fdiv 2)) μ) : WC c 1 (.ref fv) [.int n, .int 1] μ Q := by
  refine WC_def F ok.lim rfl rfl (WSs_cons ?_)
  repeat walk_at "st"
  refine WO_shl (by decide) (by decide) (by decide) ?_
  repeat walk_at "st"
  refine WO_shr (by decide) ?_
  exact h
theorem between_ok {fv : Addr} {n m : Int} (ok : CxOk c) (F : FnD c (stAt 59) fv ["one", "other"]) (h : Q (.int ((n + m).fdiv 2)) μ) : WC c 1 (.ref fv) [.int n, .int m] μ Q := by
  refine WC_def F ok.lim rfl rfl (WSs_cons ?_)
  repeat walk_at "st"
  refine WO_fdiv (by decide) (by decide) ?_
  exact h
theorem parts_ok {fv : Addr} {n m : Int} (ok : CxOk c) (F : FnD c (stAt 71) fv ["many", "size"]) (hm : m ≠ 0) (hb : m.natAbs < 2 ^ 40) (h : Q (.int ((n + m - 1).fdiv m)) μ) : WC c 1 (.ref fv) [.int n, .int m] μ Q := by
  refine WC_def F ok.lim rfl rfl (WSs_cons ?_)
  repeat walk_at "st"
  refine WO_fdiv hm hb ?_
  exact h
noncomputable def clampF (n m : Int) : Int := if n < 0 then 0 else if n > m then m else n
theorem held_ok {fv : Addr} {n m : Int} (ok : CxOk c) (F : FnD c (stAt 84) fv ["number", "most"]) (h : Q (.int (clampF n m)) μ) : WC c 1 (.ref fv) [.int n, .int m] μ Q := by
  refine WC_def F ok.lim rfl rfl (WSs_cons ?_)
  repeat walk_at "st"
  refine WE_IfExp ?_
  repeat walk_at "st"
  refine ⟨_, rfl, fun e => ?_, fun e => ?_⟩
  · repeat walk_at "st"
    have : clampF n m = 0 := by unfold clampF; rw [if_pos (of_decide_eq_true e)]
    rw [this] at h; exact h
  · refine WE_IfExp ?_
    repeat walk_at "st"
    refine ⟨_, rfl, fun e' => ?_, fun e' => ?_⟩
    · repeat walk_at "st"
      have : clampF n m = m := by unfold clampF; rw [if_neg (of_decide_eq_false e), if_pos (of_decide_eq_true e')]
      rw [this] at h; exact h
    · repeat walk_at "st"
      have : clampF n m = n := by unfold clampF; rw [if_neg (of_decide_eq_false e), if_neg (of_decide_eq_false e')]
      rw [this] at h; exact h
theorem clamped_ok {fv : Addr} {n m : Int} (ok : CxOk c) (F : FnD c (stAt 1) fv ["number", "most"]) (h : Q (.int (clampF n m)) μ) : WC c 1 (.ref fv) [.int n, .int m] μ Q := by
  refine WC_def F ok.lim rfl rfl (WSs_cons ?_)
  repeat walk_at "st"
  refine WE_IfExp ?_
  repeat walk_at "st"
  refine ⟨_, rfl, fun e => ?_, fun e => ?_⟩
  · repeat walk_at "st"
    have : clampF n m = 0 := by unfold clampF; rw [if_pos (of_decide_eq_true e)]
    rw [this] at h; exact h
  · refine WE_IfExp ?_
    repeat walk_at "st"
    refine ⟨_, rfl, fun e' => ?_, fun e' => ?_⟩
    · repeat walk_at "st"
      have : clampF n m = m := by unfold clampF; rw [if_neg (of_decide_eq_false e), if_pos (of_decide_eq_true e')]
      rw [this] at h; exact h
    · repeat walk_at "st"
      have : clampF n m = n := by unfold clampF; rw [if_neg (of_decide_eq_false e), if_neg (of_decide_eq_false e')]
      rw [this] at h; exact h
end
section
variable {c : Cx} {k : Nat} {μ : Mu} {Q : PV → Mu → Prop}
noncomputable def iL (l : List Int) : List PV := l.map .int
theorem iL_get {l : List Int} {i : Nat} {x : Int} (h : l[i]? = some x) : (iL l)[i]? = some (.int x) := by unfold iL; rw [List.getElem?_map, h]; rfl
theorem iL_length (l : List Int) : (iL l).length = l.length := List.length_map ..
noncomputable def mulL (r q : List Int) : List Int := (List.range r.length).map fun i => r.getD i 0 * q.getD i 0
theorem dequantise_ok {fv : Addr} {r q : List Int} (ok : CxOk c) (pg : Pg c) (F : FnD c (stAt 8) fv ["row", "qtable"]) (hl : r.length ≤ q.length) (hr : r.length ≤ 1000) (hq : ∀ x ∈ q, x.natAbs < 2 ^ 64)
    (h : Q (.list (iL (mulL r q))) μ) : WC c 1 (.ref fv) [.list (iL r), .tuple (iL q)] μ Q := by
  refine WC_def F ok.lim rfl rfl (WSs_cons ?_)
  walk_at "st"
  refine WE_CompR [("row", .list (iL r)), ("qtable", .tuple (iL q))] (fun i => .int (r.getD i 0 * q.getD i 0)) rfl rfl rfl rfl (.inl rfl) ?_
  refine WE_CallN ok rfl pg.n_range rfl (callee_type _) rfl ?_
  walk_at "st"
  refine WE_CallN ok rfl pg.n_len rfl (callee_builtin _) rfl ?_
  repeat walk_at "st"
  refine WO_len_list (by rw [iL_length]; lia) ?_
  repeat walk_at "st"
  refine WO_range1 ⟨r.length, by rw [iL_length], by lia, fun i hi => ?_, ?_⟩
  · walk_at "st"
    have e1 : r[i]? = some (r.getD i 0) := by rw [List.getD_eq_getElem?_getD, List.getElem?_eq_getElem hi]; rfl
    have hi' : i < q.length := by lia
    have e2 : q[i]? = some (q.getD i 0) := by rw [List.getD_eq_getElem?_getD, List.getElem?_eq_getElem hi']; rfl
    refine WE_Sub ?_
    repeat walk_at "st"
    refine ⟨.list _, WO_get_list (by lia) (by lia) (iL_get (x := r.getD i 0) e1) ?_⟩
    refine WE_Sub ?_
    repeat walk_at "st"
    refine ⟨.tuple _, WO_get_tuple (by lia) (by lia) (iL_get (x := q.getD i 0) e2) ?_⟩
    refine WO_mul (.inr (hq _ (List.mem_of_getElem? e2))) ⟨rfl, rfl⟩
  · have e : (List.range r.length).map (fun i => PV.int (r.getD i 0 * q.getD i 0)) = iL (mulL r q) := by unfold iL mulL; rw [List.map_map]; rfl
    rw [e]; exact h


theorem WO_as {t : List Value → Sem Value} {ps : List PV} {v : PV} (h : WO c k t ps μ (fun w m => w = v ∧ m = μ)) (hq : Q v μ) : WO c k t ps μ Q := h.mono fun w m ⟨e, e'⟩ => by subst e; subst e'; exact hq
noncomputable def zzOf (n : Int) : List PV := if n = 1 then [.int 0] else [.int 0, .int 1, .int 2, .int 3]
noncomputable def zzAt (n : Int) (i : Nat) : List PV := if n = 1 then (match i with | 0 => [] | _ => [.int 0]) else (match i with | 0 => [] | 1 => [.int 0] | 2 => [.int 0, .int 1, .int 2] | _ => [.int 0, .int 1, .int 2, .int 3])
noncomputable def zzLow (n : Int) (i : Nat) : Int := if n = 1 then 0 else (match i with | 2 => 1 | _ => 0)
noncomputable def zzHigh (n : Int) (i : Nat) : Int := if n = 1 then 0 else (match i with | 0 => 0 | _ => 1)
noncomputable def zzRows (n : Int) (i : Nat) : PV := if n = 1 then .rng 0 (-1) (-1) else (match i with | 0 => .rng 0 (-1) (-1) | 1 => .rng 0 2 1 | _ => .rng 1 0 (-1))
theorem zzCases {P : Int → Nat → Prop} (h1 : P 1 0) (h2 : P 2 0) (h3 : P 2 1) (h4 : P 2 2) {n : Int} (hn : n = 1 ∨ n = 2) {i : Nat} (hi : i < (2 * n - 1).toNat) : P n i := by
  rcases hn with rfl | rfl
  · obtain rfl : i = 0 := by lia
    exact h1
  · have : i = 0 ∨ i = 1 ∨ i = 2 := by lia
    rcases this with rfl | rfl | rfl
    · exact h2
    · exact h3
    · exact h4
theorem zigzag_ok {fv : Addr} {n : Int} (hn : n = 1 ∨ n = 2) (ok : CxOk c) (pg : Pg c) (F : FnD c (stAt 48) fv ["n"]) (h : Q (.tuple (zzOf n)) μ) : WC c 1 (.ref fv) [.int n] μ Q := by
  refine WC_def F ok.lim rfl rfl (WSs_cons ?_)
  refine WS_Assign (WE_ListM (WEs_nil ⟨by decide, fun a ha => ?_⟩)) rfl rfl rfl
  repeat walk_at "st"
  refine WS_ForR (σ := Unit) rfl rfl (.inl rfl) ?_
  refine WE_CallN ok rfl pg.n_range rfl (callee_type _) rfl ?_
  repeat walk_at "st"
  refine WO_mul (.inl (by decide)) ?_
  repeat walk_at "st"
  have en : (2 * n - 1 : Int) = (((2 * n - 1).toNat : Nat) : Int) := by rcases hn with rfl | rfl <;> rfl
  rw [en]
  refine WO_range1 ⟨(2 * n - 1).toNat, fun _ _ => [("n", .int n), ("found", .ptr a)], fun i _ => μ.set a (.list (zzAt n i)), fun _ _ => True, (), rfl, (by rcases hn with rfl | rfl <;> decide), trivial, .of rfl, ?_, fun i t hi _ => ?_, fun t ρ' μ' _ hl hm => ?_⟩
  · rcases hn with rfl | rfl <;> exact .refl _
  · repeat walk_at "st"
    refine WE_CallN ok rfl pg.n_max rfl (callee_builtin _) rfl ?_
    repeat walk_at "st"
    refine WO_as (v := .int (zzLow n i)) (WO_max2 ⟨?_, rfl⟩) ?_
    · refine zzCases (P := fun n i => PV.int (if (i : Int) - n + 1 > 0 then (i : Int) - n + 1 else 0) = .int (zzLow n i)) ?_ ?_ ?_ ?_ hn hi <;> rfl
    repeat walk_at "st"
    refine WE_CallN ok rfl pg.n_min rfl (callee_builtin _) rfl ?_
    repeat walk_at "st"
    refine WO_as (v := .int (zzHigh n i)) (WO_min2 ⟨?_, rfl⟩) ?_
    · refine zzCases (P := fun n i => PV.int (if n - 1 < (i : Int) then n - 1 else (i : Int)) = .int (zzHigh n i)) ?_ ?_ ?_ ?_ hn hi <;> rfl
    repeat walk_at "st"
    refine WE.mono (Q := fun v m => v = zzRows n i ∧ m = μ.set a (.list (zzAt n i))) (WE_IfExp ?_) (fun v m hv => ?_)
    · repeat walk_at "st"
      refine WO_fmod (by decide) ?_
      repeat walk_at "st"
      refine ⟨_, rfl, fun e => ?_, fun e => ?_⟩
      · refine WE_CallN ok rfl pg.n_range rfl (callee_type _) rfl ?_
        repeat walk_at "st"
        refine WO_range2 ⟨?_, rfl⟩
        revert e
        refine zzCases (P := fun n i => ((i : Int).fmod 2 == 1) = true → PV.rng (zzLow n i) (zzHigh n i + 1) 1 = zzRows n i) ?_ ?_ ?_ ?_ hn hi <;> first | (intro e; exact absurd e (by decide)) | (intro _; rfl)
      · refine WE_CallN ok rfl pg.n_range rfl (callee_type _) rfl ?_
        repeat walk_at "st"
        refine WO_range3 (by decide) (by decide) ⟨?_, rfl⟩
        revert e
        refine zzCases (P := fun n i => ((i : Int).fmod 2 == 1) = false → PV.rng (zzHigh n i) (zzLow n i - 1) (-1) = zzRows n i) ?_ ?_ ?_ ?_ hn hi <;> first | (intro e; exact absurd e (by decide)) | (intro _; rfl)
    · obtain ⟨rfl, rfl⟩ := hv
      repeat walk_at "st"
      refine WS_ForL (σ := Unit) rfl rfl (.inl rfl) ?_
      repeat walk_at "st"
      have hz : ∃ l, Items (zzRows n i) = some l ∧ (∀ p, p ∈ l → ∃ y : Int, p = .int y ∧ 0 ≤ y ∧ y ≤ 1) ∧ zzAt n i ++ l.map (fun p => match p with | .int y => .int (y * n + i - y) | p => p) = zzAt n (i + 1) ∧ l.length ≤ 2 := by
        refine zzCases (P := fun n i => ∃ l, Items (zzRows n i) = some l ∧ (∀ p, p ∈ l → ∃ y : Int, p = .int y ∧ 0 ≤ y ∧ y ≤ 1) ∧ zzAt n i ++ l.map (fun p => match p with | .int y => .int (y * n + i - y) | p => p) = zzAt n (i + 1) ∧ l.length ≤ 2) ?_ ?_ ?_ ?_ hn hi
        · exact ⟨[.int 0], rfl, by simp, rfl, by decide⟩
        · exact ⟨[.int 0], rfl, by simp, rfl, by decide⟩
        · exact ⟨[.int 0, .int 1], rfl, by simp, rfl, by decide⟩
        · exact ⟨[.int 1], rfl, by simp, rfl, by decide⟩
      obtain ⟨l, hl, hy, hfin, hlen⟩ := hz
      refine ⟨l, fun _ _ => [("total", .int i), ("n", .int n), ("found", .ptr a)], fun j _ => μ.set a (.list (zzAt n i ++ (l.take j).map (fun p => match p with | .int y => .int (y * n + i - y) | p => p))), fun _ _ => True, (), hl, trivial, .of rfl, ?_, fun j p t hp _ => ?_, fun t ρ' μ' _ hL hM => ?_⟩
      · simp; exact .refl _
      · obtain ⟨y, rfl, hy0, hy1⟩ := hy p (List.mem_of_getElem? hp)
        repeat walk_at "st"
        refine WS_app rfl rfl rfl rfl rfl (Mu.set_self ..) ?_
        repeat walk_at "st"
        refine WO_mul (.inl (by lia)) ?_
        repeat walk_at "st"
        refine ⟨_, Mu.set_self .., ?_, ?_⟩
        · have : (zzAt n i).length ≤ 4 := by
            refine zzCases (P := fun n i => (zzAt n i).length ≤ 4) ?_ ?_ ?_ ?_ hn hi <;> decide
          simp; lia
        · repeat walk_at "st"
          refine ⟨(), trivial, .of rfl, ?_⟩
          (try dsimp only)
          rw [Mu.set_set, List.take_add_one, hp, List.map_append, ← List.append_assoc]
          exact .refl _
      · (try dsimp only at hM hL)
        rw [List.take_length, hfin] at hM
        refine WSs_nil ⟨(), trivial, ?_, hM⟩
        intro q hq
        refine hL q ?_
        simp only [List.mem_cons, List.not_mem_nil, or_false] at hq ⊢
        rcases hq with rfl | rfl <;> simp
  · have e4 : zzAt n (2 * n - 1).toNat = zzOf n := by rcases hn with rfl | rfl <;> rfl
    (try dsimp only at hm hl)
    rw [e4] at hm
    refine WSs_weak hl hm ?_
    refine WSs_frz (a := a) (l := zzOf n) [("found", .list (zzOf n))] (Mu.set_self ..) (by repeat first | exact trivial | refine ⟨⟨_, rfl, by first | exact Frz.refl _ _ _ | exact Frz.ptr _ _⟩, ?_⟩) ?_
    · repeat walk_at "st"
      refine WE_CallN ok rfl pg.n_tuple rfl (callee_type _) rfl ?_
      repeat walk_at "st"
      refine WO_tuple (by rcases hn with rfl | rfl <;> decide) ?_
      rw [Mu.del_set ha]
      exact h

theorem order_ok {n : Int} (hn : n = 1 ∨ n = 2) (pg : Pg c) (h : Q (.tuple (zzOf n)) μ) : WC c 2 (.ref 528) [.int n] μ Q := by
  refine WC_def pg.F50 pg.ok.lim rfl rfl (WSs_cons (WS_Return (WE_IfExp ?_)))
  repeat walk_at "st"
  refine ⟨_, rfl, fun e => ?_, fun e => ?_⟩
  · rcases hn with rfl | rfl <;> exact absurd e (by decide)
  · refine WE_CallN pg.ok rfl pg.g48 rfl (callee_fn pg.F48) rfl ?_
    repeat walk_at "st"
    exact WO_call (zigzag_ok hn pg.ok pg pg.F48 h)
theorem zzOf_get {n : Int} (hn : n = 1 ∨ n = 2) {i : Nat} {p : PV} (h : (zzOf n)[i]? = some p) : p = .int i ∧ i < (n * n).toNat := by
  rcases hn with rfl | rfl
  · match i, h with
    | 0, h => cases h; exact ⟨rfl, by decide⟩
  · match i, h with
    | 0, h => cases h; exact ⟨rfl, by decide⟩
    | 1, h => cases h; exact ⟨rfl, by decide⟩
    | 2, h => cases h; exact ⟨rfl, by decide⟩
    | 3, h => cases h; exact ⟨rfl, by decide⟩
theorem idx_ok {i m : Nat} (h : i < m) (hm : m ≤ 1000000) : (i : Int) < 2 ^ 63 := by lia
theorem to_block_ok {n : Int} {r : List Int} (hn : n = 1 ∨ n = 2) (hr : r.length = (n * n).toNat) (pg : Pg c) (h : Q (.list (iL r)) μ) : WC c 3 (.ref 535) [.list (iL r), .int n] μ Q := by
  have hnn : 0 ≤ n * n ∧ n * n ≤ 4 := by rcases hn with rfl | rfl <;> decide
  have hN : (n * n).toNat ≤ 1000000 := by rcases hn with rfl | rfl <;> decide
  have hz : (zzOf n).length = r.length := by rw [hr]; rcases hn with rfl | rfl <;> rfl
  refine WC_def pg.F51 pg.ok.lim rfl rfl (WSs_cons ?_)
  refine WS_Assign (WE_BinOp ?_) rfl rfl rfl
  repeat walk_at "st"
  refine ⟨by decide, ?_⟩
  repeat walk_at "st"
  refine WO_mul (.inl (by rcases hn with rfl | rfl <;> decide)) ?_
  refine WO_mul_listM hnn.1 (by simp; lia) (by lia) fun a ha => ?_
  repeat walk_at "st"
  have e0 : (List.replicate (n * n).toNat [PV.int 0]).flatten = List.replicate (n * n).toNat (.int 0) := lm_rep_flat_one _ _
  rw [e0]
  refine WS_ForL (σ := Unit) rfl rfl (.inl rfl) ?_
  refine WE_CallN pg.ok rfl pg.g50 rfl (callee_fn pg.F50) rfl ?_
  repeat walk_at "st"
  refine WO_call (order_ok hn pg ?_)
  refine ⟨zzOf n, fun i _ => [("rank", .int i), ("n", .int n), ("row", .list (iL r)), ("found", .ptr a)], fun i _ => μ.set a (.list ((iL r).take i ++ List.replicate ((n * n).toNat - i) (.int 0))), fun _ _ => True, (), rfl, trivial, .of rfl, by simp; exact .refl _, fun i p t hp _ => ?_, fun t ρ' μ' _ hL hM => ?_⟩
  · obtain ⟨rfl, hi⟩ := zzOf_get hn hp
    repeat walk_at "st"
    have hir : i < r.length := by rw [hr]; exact hi
    have hlen : ((iL r).take i ++ List.replicate ((n * n).toNat - i) (PV.int 0)).length = (n * n).toNat := by rw [List.length_append, List.length_take, List.length_replicate, iL_length, Nat.min_eq_left (Nat.le_of_lt hir), Nat.add_sub_cancel' (Nat.le_of_lt hi)]
    have e1 : r[i]? = some (r.getD i 0) := by rw [List.getD_eq_getElem?_getD, List.getElem?_eq_getElem hir]; rfl
    refine WE_Sub ?_
    repeat walk_at "st"
    refine ⟨.list _, WO_get_list (Int.natCast_nonneg _) (idx_ok hi hN) (iL_get (x := r.getD i 0) e1) ?_⟩
    refine WA_Sub ?_
    repeat walk_at "st"
    refine WO_set_ptr (Mu.set_self ..) (Int.natCast_nonneg _) ?_ ?_ ?_
    · rw [hlen]; exact hi
    · rw [hlen]; exact hN
    repeat walk_at "st"
    refine WS_AugName rfl rfl (.inl rfl) ?_
    repeat walk_at "st"
    refine WO_iadd ?_
    repeat walk_at "st"
    refine ⟨(), trivial, .of rfl, ?_⟩
    rw [Mu.set_set]
    have key : ((iL r).take i ++ List.replicate ((n * n).toNat - i) (PV.int 0)).set (Int.toNat (i : Int)) (PV.int (r.getD i 0)) = (iL r).take (i + 1) ++ List.replicate ((n * n).toNat - (i + 1)) (PV.int 0) := by
      have hl : ((iL r).take i).length = i := by rw [List.length_take, iL_length, Nat.min_eq_left (Nat.le_of_lt hir)]
      have e3 : (n * n).toNat - i = ((n * n).toNat - (i + 1)) + 1 := by rw [Nat.sub_add_eq, Nat.sub_add_cancel (Nat.sub_pos_of_lt hi)]
      rw [Int.toNat_natCast, e3, List.replicate_succ, List.set_append_right _ _ (Nat.le_of_eq hl), hl, Nat.sub_self, List.set_cons_zero, List.take_add_one, iL_get e1]
      simp
    rw [key]
    exact .refl _
  · (try dsimp only at hL hM)
    rw [hz, ← iL_length r, List.take_length, iL_length, hr, Nat.sub_self, List.replicate_zero, List.append_nil] at hM
    refine WSs_weak hL hM ?_
    refine WSs_frz (a := a) (l := iL r) [("found", .list (iL r))] (Mu.set_self ..) (by repeat first | exact trivial | refine ⟨⟨_, rfl, by first | exact Frz.refl _ _ _ | exact Frz.ptr _ _⟩, ?_⟩) ?_
    repeat walk_at "st"
    rw [Mu.del_set ha]
    exact h

end
section
variable {c : Cx} {k : Nat} {μ : Mu} {Q : PV → Mu → Prop}
noncomputable def sums4 (l : List Int) : List Int := [l.getD 0 0 + l.getD 1 0 + l.getD 2 0 + l.getD 3 0, l.getD 0 0 - l.getD 1 0 + l.getD 2 0 - l.getD 3 0, l.getD 0 0 + l.getD 1 0 - l.getD 2 0 - l.getD 3 0, l.getD 0 0 - l.getD 1 0 - l.getD 2 0 + l.getD 3 0]
theorem four {l : List Int} (h : l.length = 4) : ∃ a b d e, l = [a, b, d, e] := by
  match l, h with
  | [a, b, d, e], _ => exact ⟨a, b, d, e, rfl⟩
theorem sums_ok {o : PV} {l : List Int} (hl : l.length = 4) (pg : Pg c) (h : Q (.list (iL (sums4 l))) μ) : WC c 1 (.ref 203) [o, .list (iL l)] μ Q := by
  obtain ⟨a, b, d, e, rfl⟩ := four hl
  refine WC_def pg.G38_2 pg.ok.lim rfl rfl (WSs_cons ?_)
  walk_at "go"
  refine WA_TupleL rfl rfl ?_
  show WAs _ _ _ _ _ _ [.int a, .int b, .int d, .int e] _
  refine WAs_cons rfl ?_
  walk_at "go"
  refine WAs_cons rfl ?_
  walk_at "go"
  refine WAs_cons rfl ?_
  walk_at "go"
  refine WAs_cons rfl ?_
  walk_at "go"
  refine WAs_nil ?_
  walk_at "go"
  exact ⟨by simp, h⟩
noncomputable def halved (l : List Int) : List Int := l.map fun n => (n + 1).fdiv 2
theorem inverse2_ok {l : List Int} (hl : l.length = 4) (pg : Pg c) (h : Q (.list (iL (halved (sums4 l)))) μ) : WC c 2 (.ref 196) [.inst "TwoDct" [], .list (iL l)] μ Q := by
  refine WC_def pg.G38_1 pg.ok.lim rfl rfl (WSs_cons ?_)
  walk_at "st"
  refine WE_CompL [] (fun p => match p with | .int n => .int ((n + 1).fdiv 2) | p => p) rfl rfl rfl rfl (.inl rfl) ?_
  walk_at "go"
  refine WO.le (j := 1) (WO_call (sums_ok hl pg ?_)) (by decide)
  refine ⟨iL (sums4 l), rfl, by simp [iL, sums4], fun p hp => ?_, ?_⟩
  · obtain ⟨n, _, rfl⟩ := List.mem_map.mp hp
    walk_at "go"
    exact WO.le (j := 1) (WO_call (descaled_ok pg.ok pg.F15 ⟨rfl, rfl⟩)) (by decide)
  · have e : ∀ l : List Int, (iL l).map (fun p => match p with | .int n => PV.int ((n + 1).fdiv 2) | p => p) = iL (halved l) := fun l => by unfold iL halved; rw [List.map_map, List.map_map]; rfl
    rw [e]; exact h
theorem inverse1_ok {l : List Int} (hl : l.length = 1) (pg : Pg c) (h : Q (.list (iL l)) μ) : WC c 1 (.ref 231) [.inst "OneDct" [], .list (iL l)] μ Q := by
  obtain ⟨a, rfl⟩ : ∃ a, l = [a] := by
    match l, hl with
    | [a], _ => exact ⟨a, rfl⟩
  refine WC_def pg.G39_1 pg.ok.lim rfl rfl (WSs_cons ?_)
  walk_at "go"
  refine WO_get_list (v := .int a) (by decide) (by decide) rfl ?_
  walk_at "go"
  exact ⟨by simp, h⟩
noncomputable def dctP (n : Int) : PV := if n = 1 then .inst "OneDct" [] else .inst "TwoDct" []
theorem picked_ok {n : Int} (hn : n = 1 ∨ n = 2) (pg : Pg c) (h : Q (dctP n) μ) : WC c 2 (.ref 289) [.int n] μ Q := by
  refine WC_def pg.F45 pg.ok.lim rfl rfl (WSs_cons ?_)
  rcases hn with rfl | rfl
  · walk_at "go"
    refine ⟨_, rfl, fun e => absurd e (by decide), fun _ => ?_⟩
    walk_at "go"
    refine ⟨_, rfl, fun e => absurd e (by decide), fun _ => ?_⟩
    walk_at "go"
    refine ⟨_, rfl, fun e => absurd e (by decide), fun _ => ?_⟩
    walk_at "go"
    refine ⟨_, rfl, fun _ => ?_, fun e => absurd e (by decide)⟩
    walk_at "go"
    refine WE_CallN pg.ok rfl (.inl pg.h39) rfl (callee_cls pg.ok pg.k39) rfl (WEs_nil (WO_call (WC_new0 pg.ok pg.h39 pg.m39 pg.n39 h)))
  · walk_at "go"
    refine ⟨_, rfl, fun e => absurd e (by decide), fun _ => ?_⟩
    walk_at "go"
    refine ⟨_, rfl, fun e => absurd e (by decide), fun _ => ?_⟩
    walk_at "go"
    refine ⟨_, rfl, fun _ => ?_, fun e => absurd e (by decide)⟩
    walk_at "go"
    refine WE_CallN pg.ok rfl (.inl pg.h38) rfl (callee_cls pg.ok pg.k38) rfl (WEs_nil (WO_call (WC_new0 pg.ok pg.h38 pg.m38 pg.n38 h)))
noncomputable def idct (n : Int) (l : List Int) : List Int := if n = 1 then l else halved (sums4 l)
theorem inverse_ok {n : Int} {l : List Int} (hn : n = 1 ∨ n = 2) (hl : l.length = (n * n).toNat) (pg : Pg c) (h : Q (.list (iL (idct n l))) μ) : WC c 3 (.ref 296) [.list (iL l), .int n] μ Q := by
  refine WC_def pg.F46 pg.ok.lim rfl rfl (WSs_cons (WS_Return ?_))
  rcases hn with rfl | rfl
  · refine pg.methI pg.G39_1 pg.e39_1 (.inr ⟨_, _, _, _, rfl⟩) rfl rfl (by decide) ?_
    walk_at "go"
    refine WO_call (picked_ok (.inl rfl) pg ?_)
    refine ⟨[], rfl, rfl, ?_⟩
    walk_at "go"
    refine WO.le (j := 1) (WO_call (inverse1_ok hl pg ?_)) (by decide)
    exact h
  · refine pg.methI pg.G38_1 pg.e38_1 (.inr ⟨_, _, _, _, rfl⟩) rfl rfl (by decide) ?_
    walk_at "go"
    refine WO_call (picked_ok (.inr rfl) pg ?_)
    refine ⟨[], rfl, rfl, ?_⟩
    walk_at "go"
    refine WO_call (inverse2_ok hl pg ?_)
    exact h
noncomputable def spl (n : Int) (r q : List Int) : List Int := idct n (mulL r q)
theorem mulL_length (r q : List Int) : (mulL r q).length = r.length := by simp [mulL]
theorem spl_length {n : Int} {r q : List Int} (hn : n = 1 ∨ n = 2) (hr : r.length = (n * n).toNat) : (spl n r q).length = (n * n).toNat := by
  unfold spl idct
  rcases hn with rfl | rfl
  · rw [if_pos rfl, mulL_length, hr]
  · rw [if_neg (by decide)]; rfl
theorem sample_block_ok {n : Int} {r q : List Int} (hn : n = 1 ∨ n = 2) (hr : r.length = (n * n).toNat) (hq : q.length = (n * n).toNat) (hqb : ∀ x ∈ q, x.natAbs < 2 ^ 64) (pg : Pg c) (h : Q (.list (iL (spl n r q))) μ) :
    WC c 4 (.ref 542) [.list (iL r), .tuple (iL q), .int n] μ Q := by
  have hnn : (n * n).toNat ≤ 4 := by rcases hn with rfl | rfl <;> decide
  refine WC_def pg.F53 pg.ok.lim rfl rfl (WSs_cons ?_)
  walk_at "go"
  refine WO.le (j := 1) (WO_call (dequantise_ok pg.ok pg pg.F8 (by lia) (by lia) hqb ?_)) (by decide)
  walk_at "go"
  refine WO_call (to_block_ok hn (by rw [mulL_length, hr]) pg ?_)
  walk_at "go"
  refine WO_call (inverse_ok hn (by rw [mulL_length, hr]) pg ?_)
  exact h
end
section
variable {c : Cx} {k : Nat} {μ : Mu} {Q : PV → Mu → Prop} {n bits w h : Int} {many : Nat}
theorem comp_ones (many : Nat) : ((List.range many).map compP).map (fun _ => PV.int 1) = List.replicate many (.int 1) := by
  rw [List.map_map]
  apply List.ext_getElem
  · simp
  · intro i h1 h2; simp
theorem most_across_ok (pg : Pg c) (hm : 0 < many) (hm2 : many ≤ 1000) (hq : Q (.int 1) μ) : WC c 1 (.ref 668) [frameP n bits w h many] μ Q := by
  refine WC_def pg.G73_1 pg.ok.lim rfl rfl (WSs_cons (WS_Return ?_))
  walk_at "go"
  refine WE_CompL [] (fun _ => .int 1) rfl rfl rfl rfl (.inl rfl) ?_
  walk_at "go"
  refine ⟨_, rfl, len_mr (by assumption) (by decide), fun p hp => ?_, ?_⟩
  · obtain ⟨i, _, rfl⟩ := List.mem_map.mp hp
    walk_at "go"
    exact ⟨rfl, rfl⟩
  · rw [comp_ones]
    walk_at "go"
    exact WO_max_const hm hq
theorem most_down_ok (pg : Pg c) (hm : 0 < many) (hm2 : many ≤ 1000) (hq : Q (.int 1) μ) : WC c 1 (.ref 673) [frameP n bits w h many] μ Q := by
  refine WC_def pg.G73_2 pg.ok.lim rfl rfl (WSs_cons (WS_Return ?_))
  walk_at "go"
  refine WE_CompL [] (fun _ => .int 1) rfl rfl rfl rfl (.inl rfl) ?_
  walk_at "go"
  refine ⟨_, rfl, len_mr (by assumption) (by decide), fun p hp => ?_, ?_⟩
  · obtain ⟨i, _, rfl⟩ := List.mem_map.mp hp
    walk_at "go"
    exact ⟨rfl, rfl⟩
  · rw [comp_ones]
    walk_at "go"
    exact WO_max_const hm hq
noncomputable def up (w n : Int) : Int := (w + n - 1).fdiv n
theorem mcus_across_ok (pg : Pg c) (hm : 0 < many) (hm2 : many ≤ 1000) (hn : n = 1 ∨ n = 2) (hq : Q (.int (up w n)) μ) : WC c 2 (.ref 680) [frameP n bits w h many] μ Q := by
  refine WC_def pg.G73_3 pg.ok.lim rfl rfl (WSs_cons (WS_Return ?_))
  walk_at "go"
  refine WO.le (j := 1) (WO_call (most_across_ok pg hm hm2 ?_)) (by decide)
  refine WO_mul (.inr (by decide)) ?_
  walk_at "go"
  rw [Int.mul_one]
  exact WO.le (j := 1) (WO_call (parts_ok pg.ok pg.F71 (by lia) (by lia) hq)) (by decide)
theorem mcus_down_ok (pg : Pg c) (hm : 0 < many) (hm2 : many ≤ 1000) (hn : n = 1 ∨ n = 2) (hq : Q (.int (up h n)) μ) : WC c 2 (.ref 687) [frameP n bits w h many] μ Q := by
  refine WC_def pg.G73_4 pg.ok.lim rfl rfl (WSs_cons (WS_Return ?_))
  walk_at "go"
  refine WO.le (j := 1) (WO_call (most_down_ok pg hm hm2 ?_)) (by decide)
  refine WO_mul (.inr (by decide)) ?_
  walk_at "go"
  rw [Int.mul_one]
  exact WO.le (j := 1) (WO_call (parts_ok pg.ok pg.F71 (by lia) (by lia) hq)) (by decide)
theorem comp_get {p : Nat} (hp : p < many) : ((List.range many).map compP)[(p : Int).toNat]? = some (compP p) := by
  rw [Int.toNat_natCast, List.getElem?_map, List.getElem?_range hp]; rfl
theorem up1 (w : Int) : (w + 1 - 1).fdiv 1 = w := by rw [Int.fdiv_one]; lia
theorem plane_size_ok {p : Nat} (pg : Pg c) (hp : p < many) (hm2 : many ≤ 1000) (hw : 0 ≤ w ∧ w ≤ 1000) (hh : 0 ≤ h ∧ h ≤ 1000) (hq : Q (.tuple [.int w, .int h]) μ) : WC c 2 (.ref 694) [frameP n bits w h many, .int p] μ Q := by
  refine WC_def pg.G73_5 pg.ok.lim rfl rfl (WSs_cons ?_)
  walk_at "go"
  refine WO_get_list (Int.natCast_nonneg _) (castL hp (by assumption) (by decide)) (comp_get hp) ?_
  walk_at "go"
  refine WO_mul (.inr (by decide)) ?_
  walk_at "go"
  refine WO.le (j := 1) (WO_call (most_across_ok pg (by lia) hm2 ?_)) (by decide)
  walk_at "go"
  rw [Int.mul_one]
  refine WO.le (j := 1) (WO_call (parts_ok pg.ok pg.F71 (by decide) (by decide) ?_)) (by decide)
  rw [up1]
  walk_at "go"
  refine WO_mul (.inr (by decide)) ?_
  walk_at "go"
  refine WO.le (j := 1) (WO_call (most_down_ok pg (by lia) hm2 ?_)) (by decide)
  walk_at "go"
  rw [Int.mul_one]
  refine WO.le (j := 1) (WO_call (parts_ok pg.ok pg.F71 (by decide) (by decide) ?_)) (by decide)
  rw [up1]
  walk_at "go"
  exact ⟨by simp, hq⟩
theorem blocks_ok {p : Nat} (pg : Pg c) (hp : p < many) (hm2 : many ≤ 1000) (hn : n = 1 ∨ n = 2) (hw : 0 ≤ w ∧ w ≤ 1000) (hh : 0 ≤ h ∧ h ≤ 1000) (hq : Q (.tuple [.int (up w n), .int (up h n)]) μ) : WC c 3 (.ref 701) [frameP n bits w h many, .int p] μ Q := by
  refine WC_def pg.G73_6 pg.ok.lim rfl rfl (WSs_cons ?_)
  walk_at "go"
  refine WO_call (plane_size_ok pg hp hm2 hw hh ?_)
  refine WA_Tuple rfl rfl ?_
  walk_at "ass"
  walk_at "go"
  refine WO.le (j := 1) (WO_call (parts_ok pg.ok pg.F71 (by lia) (by lia) ?_)) (by decide)
  walk_at "go"
  refine WO.le (j := 1) (WO_call (parts_ok pg.ok pg.F71 (by lia) (by lia) ?_)) (by decide)
  walk_at "go"
  exact ⟨by simp, hq⟩
theorem padded_ok {p : Nat} (pg : Pg c) (hp : p < many) (hm2 : many ≤ 1000) (hn : n = 1 ∨ n = 2) (hq : Q (.tuple [.int (up w n), .int (up h n)]) μ) : WC c 3 (.ref 708) [frameP n bits w h many, .int p] μ Q := by
  refine WC_def pg.G73_7 pg.ok.lim rfl rfl (WSs_cons ?_)
  walk_at "go"
  refine WO_get_list (Int.natCast_nonneg _) (castL hp (by assumption) (by decide)) (comp_get hp) ?_
  walk_at "go"
  refine WO_call (mcus_across_ok pg (by lia) hm2 hn ?_)
  walk_at "go"
  refine WO_mul (.inr (by decide)) ?_
  walk_at "go"
  refine WO_call (mcus_down_ok pg (by lia) hm2 hn ?_)
  walk_at "go"
  refine WO_mul (.inr (by decide)) ?_
  rw [Int.mul_one, Int.mul_one]
  walk_at "go"
  exact ⟨by simp, hq⟩
end
section
variable {c : Cx} {k : Nat} {μ : Mu} {Q : PV → Mu → Prop} {n bits w h : Int} {many : Nat}
noncomputable def planeP (w h : Int) (rows : PV) : PV := .inst "Plane" [("width", .int w), ("height", .int h), ("rows", rows)]
theorem plane_ok (pg : Pg c) {rows : PV} (hq : Q (planeP w h rows) μ) : WC c 2 (.ref 59) [.int w, .int h, rows] μ Q := by
  refine WC_frz (WC_new pg.ok pg.h4 pg.m4 pg.n4 pg.t4 fun a d hd => WC_def pg.G4_0 pg.ok.lim rfl rfl (WSs_cons ?_))
  walk_at "go"
  refine WA_Attr pg.ok ?_
  walk_at "go"
  refine ⟨_, _, _, _, rfl, Mu.set_self .., pg.s4_width, by simp, rfl, ?_⟩
  walk_at "go"
  refine WA_Attr pg.ok ?_
  walk_at "go"
  refine ⟨_, _, _, _, rfl, Mu.set_self .., pg.s4_height, by simp, rfl, ?_⟩
  walk_at "go"
  refine WA_Attr pg.ok ?_
  walk_at "go"
  refine ⟨_, _, _, _, rfl, Mu.set_self .., pg.s4_rows, by simp, rfl, ?_⟩
  walk_at "go"
  refine ⟨rfl, _, _, _, _, rfl, Mu.set_self .., ?_⟩
  rw [Mu.set_set, Mu.set_set, Mu.set_set, Mu.del_set hd]
  exact hq
theorem component_ok (pg : Pg c) {i : Nat} (hq : Q (compP i) μ) : WC c 2 (.ref 645) [.int i, .int 1, .int 1, .int 0] μ Q := by
  refine WC_frz (WC_new pg.ok pg.h72 pg.m72 pg.n72 pg.t72 fun a d hd => WC_def pg.G72_0 pg.ok.lim rfl rfl (WSs_cons ?_))
  walk_at "go"
  refine WA_Attr pg.ok ?_
  walk_at "go"
  refine ⟨_, _, _, _, rfl, Mu.set_self .., pg.s72_ident, by simp, rfl, ?_⟩
  walk_at "go"
  refine WA_Attr pg.ok ?_
  walk_at "go"
  refine ⟨_, _, _, _, rfl, Mu.set_self .., pg.s72_across, by simp, rfl, ?_⟩
  walk_at "go"
  refine WA_Attr pg.ok ?_
  walk_at "go"
  refine ⟨_, _, _, _, rfl, Mu.set_self .., pg.s72_down, by simp, rfl, ?_⟩
  walk_at "go"
  refine WA_Attr pg.ok ?_
  walk_at "go"
  refine ⟨_, _, _, _, rfl, Mu.set_self .., pg.s72_quant, by simp, rfl, ?_⟩
  walk_at "go"
  refine ⟨rfl, _, _, _, _, rfl, Mu.set_self .., ?_⟩
  rw [Mu.set_set, Mu.set_set, Mu.set_set, Mu.set_set, Mu.del_set hd]
  exact hq
theorem frame_ok (pg : Pg c) (hq : Q (frameP n bits w h many) μ) : WC c 2 (.ref 711) [.str "extended", .int bits, .int h, .int w, .list ((List.range many).map compP), .int n] μ Q := by
  refine WC_frz (WC_new pg.ok pg.h73 pg.m73 pg.n73 pg.t73 fun a d hd => WC_def pg.G73_0 pg.ok.lim rfl rfl (WSs_cons ?_))
  walk_at "go"
  refine WA_Attr pg.ok ?_
  walk_at "go"
  refine ⟨_, _, _, _, rfl, Mu.set_self .., pg.s73_kind, by simp, rfl, ?_⟩
  walk_at "go"
  refine WA_Attr pg.ok ?_
  walk_at "go"
  refine ⟨_, _, _, _, rfl, Mu.set_self .., pg.s73_precision, by simp, rfl, ?_⟩
  walk_at "go"
  refine WA_Attr pg.ok ?_
  walk_at "go"
  refine ⟨_, _, _, _, rfl, Mu.set_self .., pg.s73_height, by simp, rfl, ?_⟩
  walk_at "go"
  refine WA_Attr pg.ok ?_
  walk_at "go"
  refine ⟨_, _, _, _, rfl, Mu.set_self .., pg.s73_width, by simp, rfl, ?_⟩
  walk_at "go"
  refine WA_Attr pg.ok ?_
  walk_at "go"
  refine ⟨_, _, _, _, rfl, Mu.set_self .., pg.s73_components, by simp, rfl, ?_⟩
  walk_at "go"
  refine WA_Attr pg.ok ?_
  walk_at "go"
  refine ⟨_, _, _, _, rfl, Mu.set_self .., pg.s73_n, by simp, rfl, ?_⟩
  walk_at "go"
  refine ⟨rfl, _, _, _, _, rfl, Mu.set_self .., ?_⟩
  rw [Mu.set_set, Mu.set_set, Mu.set_set, Mu.set_set, Mu.set_set, Mu.set_set, Mu.del_set hd]
  exact hq
theorem blank_ok (pg : Pg c) {w h : Nat} {v : Int} (hw : w ≤ 1000) (hh : h ≤ 1000) (hq : ∀ as : List Addr, as.length = h → as.Nodup → (∀ a ∈ as, μ a = none) → Q (planeP w h (.list (as.map .ptr))) (muF μ as (fun _ => List.replicate w (.int v)))) :
    WC c 3 (.ref 75) [.int w, .int h, .int v] μ Q := by
  refine WC_def pg.F6 pg.ok.lim rfl rfl (WSs_cons ?_)
  walk_at "go"
  refine WE_CallN pg.ok rfl (.inl pg.h4) rfl (callee_cls pg.ok pg.k4) rfl ?_
  walk_at "go"
  refine WE_CompRows [("value", .int v), ("width", .int w)] (List.replicate w (.int v)) rfl rfl rfl rfl (.inl rfl) ?_
  walk_at "go"
  refine ⟨h, rfl, by lia, fun i μ' hi => ?_, fun as h1 h2 h3 => ?_⟩
  · walk_at "go"
    refine ⟨by simp, ?_⟩
    walk_at "go"
    refine WO_mul_listM (by lia) (by simp; lia) (by lia) fun a ha => ?_
    refine ⟨a, rfl, ha, ?_⟩
    rw [Int.toNat_natCast, lm_rep_flat_one]
  · walk_at "go"
    exact WO_call (plane_ok pg (hq as h1 h2 h3))
end
section
variable {c : Cx} {k : Nat} {μ : Mu} {Q : PV → Mu → Prop} {n bits w h : Int} {many : Nat}
theorem muF_same {as : List Addr} {f : Nat → List PV} (h : ∀ i, i < as.length → f i = f 0) : muF μ as f = muF μ as (fun _ => f 0) := muF_congr fun i hi => h i hi
noncomputable def ptrs (as : List Addr) (D p : Nat) : PV := .list ((List.range D).map fun y => .ptr (as.getD (p * D + y) 0))
noncomputable def gridM (n : Int) (as : List Addr) (D many : Nat) : PV := .inst "Grid" [("many", .int (n * n)), ("planes", .list ((List.range many).map (ptrs as D)))]
theorem as_ptrs {as bs : List Addr} {i D : Nat} (h : as.length = i * D) (hb : bs.length = D) : ptrs (as ++ bs) D i = .list (bs.map .ptr) := by
  unfold ptrs
  congr 1
  apply List.ext_getElem
  · simp [hb]
  · intro y h1 h2
    rw [List.length_map, List.length_range] at h1
    have e1 : (as ++ bs)[i * D + y]? = some bs[y] := by
      rw [List.getElem?_append_right (by lia), h, Nat.add_sub_cancel_left, List.getElem?_eq_getElem]
    simp only [List.getElem_map, List.getElem_range]
    rw [List.getD_eq_getElem?_getD, e1]; rfl
theorem ptrs_more {as bs : List Addr} {i j D : Nat} (h : as.length = i * D) (hj : j < i) : ptrs (as ++ bs) D j = ptrs as D j := by
  unfold ptrs
  congr 1
  apply List.map_congr_left
  intro y hy
  rw [List.mem_range] at hy
  have : j * D + y < as.length := by
    have h1 : (j + 1) * D ≤ i * D := Nat.mul_le_mul_right D hj
    rw [Nat.succ_mul] at h1
    lia
  rw [List.getD_eq_getElem?_getD, List.getElem?_append_left this, ← List.getD_eq_getElem?_getD]
theorem map_ptrs_more {as bs : List Addr} {i D : Nat} (h : as.length = i * D) : (List.range i).map (ptrs (as ++ bs) D) = (List.range i).map (ptrs as D) := by
  apply List.map_congr_left
  intro j hj
  exact ptrs_more h (List.mem_range.mp hj)
theorem grid_ok (pg : Pg c) (hm0 : 0 < many) (hm : many ≤ 100) (hn : n = 1 ∨ n = 2) {A D : Nat} (hA : up w n = A) (hD : up h n = D) (hA2 : A ≤ 100) (hD2 : D ≤ 100)
    (hq : ∀ as : List Addr, as.length = many * D → as.Nodup → (∀ a ∈ as, μ a = none) → Q (gridM n as D many) (muF μ as (fun _ => List.replicate A .none))) : WC c 5 (.ref 744) [frameP n bits w h many] μ Q := by
  refine WC_frzL (WC_frz (WC_new pg.ok pg.h75 pg.m75 pg.n75 pg.t75 fun a d hd => WC_def pg.G75_0 pg.ok.lim rfl rfl (WSs_cons ?_)))
  walk_at "go"
  refine WO_mul (.inr (by rcases hn with rfl | rfl <;> decide)) ?_
  refine WA_Attr pg.ok ?_
  walk_at "go"
  refine ⟨_, _, _, _, rfl, Mu.set_self .., pg.s75_many, by simp, rfl, ?_⟩
  rw [Mu.set_set]
  refine WSs_cons (WS_Assign (WE_ListM (WEs_nil ⟨by decide, fun q hq0 => ?_⟩)) rfl rfl rfl)
  have hqd : q ≠ d := by rintro rfl; rw [Mu.set_self] at hq0; cases hq0
  have hqn : μ q = none := by rwa [Mu.set_ne _ _ hqd] at hq0
  refine WA_Attr pg.ok ?_
  walk_at "go"
  refine ⟨_, _, _, [(("many" : Str), PV.int (n * n))], rfl, ?_, pg.s75_planes, by simp, rfl, ?_⟩
  · rw [Mu.set_ne _ _ (Ne.symm hqd), Mu.set_self]; rfl
  have e0 : ((μ.set d (.ns [("many", PV.int (n * n))])).set q (.list [])).set d (.ns [("many", PV.int (n * n)), ("planes", PV.ptr q)]) = ((μ.set d (.ns [("many", PV.int (n * n)), ("planes", PV.ptr q)])).set q (.list [])) := by
    rw [Mu.set_comm hqd, Mu.set_set]
  show WSs _ _ _ _ (((μ.set d (.ns [("many", PV.int (n * n))])).set q (.list [])).set d (.ns [("many", PV.int (n * n)), ("planes", PV.ptr q)])) _ _
  rw [e0]
  walk_at "go"
  refine WS_ForR (σ := List Addr) rfl rfl (.inl rfl) ?_
  walk_at "go"
  refine WO_len_list (len_mr (by assumption) (by decide)) ?_
  rw [List.length_map, List.length_range]
  walk_at "go"
  refine ⟨many, fun i as => [("self", .mi a "Grid" d), ("frame", frameP n bits w h many)], fun i as => (((muF μ as (fun _ => List.replicate A .none)).set d (.ns [("many", PV.int (n * n)), ("planes", PV.ptr q)])).set q (.list ((List.range i).map (ptrs as D)))),
    fun i as => as.length = i * D ∧ as.Nodup ∧ (∀ b ∈ as, μ b = none) ∧ d ∉ as ∧ q ∉ as, [], rfl, Nat.le_trans (by assumption) (by decide), ⟨by simp, List.Pairwise.nil, fun _ h => (nomatch h), fun h => (nomatch h), fun h => (nomatch h)⟩, .of rfl, .refl _, fun i as hi hI => ?_, fun as ρ' μ' hI hL hM => ?_⟩
  · obtain ⟨hl, hnd, hfr, hda, hqa⟩ := hI
    walk_at "go"
    refine WO_call (padded_ok pg hi (Nat.le_trans (by assumption) (by decide)) hn ?_)
    rw [hA, hD]
    refine WA_Tuple rfl rfl ?_
    walk_at "ass"
    refine WSs_cons (WS_Expr rfl ?_)
    refine WE_CallM (.inl rfl) rfl (callee_builtin "list.append") rfl (by decide) ?_
    (try dsimp only)
    walk_at "go"
    refine ⟨_, _, _, Fields_mi (by rw [Mu.set_ne _ _ (Ne.symm hqd), Mu.set_self]), rfl, rfl, pg.p75_planes, ?_⟩
    refine ⟨_, meth_append (Mu.set_self ..), ?_⟩
    walk_at "go"
    refine WE_CompRows [("across", .int A)] (List.replicate A .none) rfl rfl rfl rfl (.inl rfl) ?_
    walk_at "go"
    refine ⟨D, rfl, Nat.le_trans (by assumption) (by decide), fun i μ' hi => ?_, fun bs h1 h2 h3 => ?_⟩
    · refine WE_BinOp (WE_List (WEs_cons rfl (WE_none (WEs_nil ⟨by decide, ?_⟩))))
      walk_at "go"
      refine WO_mul_listM (by lia) (by simp; lia) (by lia) fun a ha => ?_
      refine ⟨a, rfl, ha, ?_⟩
      rw [Int.toNat_natCast, lm_rep_flat_one]
    · have hqb : q ∉ bs := fun hb => by have := h3 q hb; rw [Mu.set_self] at this; cases this
      have hdb : d ∉ bs := fun hb => by have := h3 d hb; rw [Mu.set_ne _ _ (Ne.symm hqd), Mu.set_self] at this; cases this
      have hb' : ∀ b ∈ bs, b ∉ as ∧ μ b = none := fun b hb => by
        have := h3 b hb
        rw [Mu.set_ne _ _ (by rintro rfl; exact hqb hb), Mu.set_ne _ _ (by rintro rfl; exact hdb hb)] at this
        exact muF_none this
      have hst : muF (((muF μ as (fun _ => List.replicate A .none)).set d (.ns [("many", PV.int (n * n)), ("planes", PV.ptr q)])).set q (.list ((List.range i).map (ptrs as D)))) bs (fun _ => List.replicate A .none) =
          ((muF μ (as ++ bs) (fun _ => List.replicate A .none)).set d (.ns [("many", PV.int (n * n)), ("planes", PV.ptr q)])).set q (.list ((List.range i).map (ptrs as D))) := by
        rw [muF_over hqb, muF_over hdb, muF_muF (fun b hb => (hb' b hb).1)]
        simp only [ite_self]
      rw [hst]
      walk_at "go"
      refine WO_append (Mu.set_self ..) (by simp; lia) ⟨rfl, ?_⟩
      walk_at "go"
      refine ⟨as ++ bs, ⟨by rw [List.length_append, hl, h1, Nat.succ_mul], ?_, ?_, by simp [hda, hdb], by simp [hqa, hqb]⟩, .of rfl, ?_⟩
      · rw [List.nodup_append]
        exact ⟨hnd, h2, fun x hx y hy e => by subst e; exact (hb' x hy).1 hx⟩
      · intro b hb
        rcases List.mem_append.mp hb with hb | hb
        · exact hfr b hb
        · exact (hb' b hb).2
      · (try dsimp only); rw [Mu.set_set, List.range_succ, List.map_append, List.map_singleton, as_ptrs hl h1, map_ptrs_more hl]
        exact .refl _
  · obtain ⟨hl, hnd, hfr, hda, hqa⟩ := hI
    (try dsimp only at hL hM)
    refine WSs_weak hL hM (WSs_nil ⟨rfl, a, "Grid", d, [("many", PV.int (n * n)), ("planes", PV.ptr q)], rfl, ?_, ?_⟩)
    · rw [Mu.set_ne _ _ (Ne.symm hqd), Mu.set_self]
    · refine ⟨q, (List.range many).map (ptrs as D), _, ?_, Frz.inst [("many", .int (n * n))] [] (Frz.ptr _ _), ?_⟩
      · rw [Mu.del_ne _ hqd, Mu.set_self]
      · have e9 : (((((muF μ as (fun _ => List.replicate A .none)).set d (.ns [("many", PV.int (n * n)), ("planes", PV.ptr q)])).set q (.list ((List.range many).map (ptrs as D)))).del d).del q) = muF μ as (fun _ => List.replicate A .none) := by
          rw [Mu.set_del_ne hqd, Mu.del_set (μ := muF μ as (fun _ => List.replicate A .none)) (a := d) (by rw [muF_out hda]; exact hd), Mu.del_set (by rw [muF_out hqa]; exact hqn)]
        rw [e9]
        exact hq as hl hnd hfr
end
section
variable {c : Cx} {k : Nat} {μ : Mu} {Q : PV → Mu → Prop} {n bits w h : Int} {many : Nat}
noncomputable def tab (h w : Nat) (S : Nat → Nat → Int) : PV := .list ((List.range h).map fun y => .list ((List.range w).map fun x => .int (S y x)))
noncomputable def rowF (w : Nat) (g : Nat → Int) : List PV := (List.range w).map fun x => .int (g x)
theorem rowF_set {w : Nat} {g : Nat → Int} {x : Nat} {v : Int} : (rowF w g).set x (.int v) = rowF w (fun i => if i = x then v else g i) := by
  unfold rowF
  apply List.ext_getElem
  · simp
  · intro i h1 h2
    simp only [List.getElem_set, List.getElem_map, List.getElem_range]
    by_cases hi : x = i
    · simp [hi]
    · simp [hi, Ne.symm hi]
theorem rowF_get {w : Nat} {g : Nat → Int} {x : Nat} (h : x < w) : (rowF w g)[x]? = some (.int (g x)) := by
  unfold rowF; rw [List.getElem?_map, List.getElem?_range h]; rfl
theorem rowF_length (w : Nat) (g : Nat → Int) : (rowF w g).length = w := by simp [rowF]
theorem rowF_rep (w : Nat) (v : Int) : List.replicate w (.int v) = rowF w (fun _ => v) := by
  unfold rowF
  apply List.ext_getElem <;> simp
theorem rowF_congr {w : Nat} {g g' : Nat → Int} (h : ∀ x, x < w → g x = g' x) : rowF w g = rowF w g' := by
  unfold rowF
  apply List.map_congr_left
  intro x hx
  rw [h x (List.mem_range.mp hx)]
noncomputable def gridP (n : Int) (A D many : Nat) (G : Nat → Nat → Nat → List Int) : PV :=
  .inst "Grid" [("many", .int (n * n)), ("planes", .list ((List.range many).map fun p => .list ((List.range D).map fun y => .list ((List.range A).map fun x => .list (iL (G p y x))))))]
theorem get_range {α : Type} {n i : Nat} {f : Nat → α} (h : i < n) : ((List.range n).map f)[(i : Int).toNat]? = some (f i) := by
  rw [Int.toNat_natCast, List.getElem?_map, List.getElem?_range h]; rfl
theorem grid_get_ok (pg : Pg c) {A D p x y : Nat} {G : Nat → Nat → Nat → List Int} (hp : p < many) (hx : x < A) (hy : y < D) (hA : A ≤ 100) (hD : D ≤ 100) (hm : many ≤ 100) (hq : Q (.list (iL (G p y x))) μ) :
    WC c 1 (.ref 734) [gridP n A D many G, .int p, .int x, .int y] μ Q := by
  refine WC_def pg.G75_1 pg.ok.lim rfl rfl (WSs_cons ?_)
  walk_at "go"
  refine WO_get_list (Int.natCast_nonneg _) (castL hp (by assumption) (by decide)) (get_range hp) ?_
  walk_at "go"
  refine WO_get_list (Int.natCast_nonneg _) (castL hy (by assumption) (by decide)) (get_range hy) ?_
  walk_at "go"
  refine WO_get_list (Int.natCast_nonneg _) (castL hx (by assumption) (by decide)) (get_range hx) ?_
  walk_at "go"
  refine WE_IfExp (WT_Compare rfl ?_)
  walk_at "go"
  refine WE_none ?_
  refine WO_is_none false (fun fz v r => by cases r; rfl) ⟨_, rfl, ⟨fun e => absurd e (by decide), fun _ => ?_⟩⟩
  walk_at "go"
  exact hq
theorem grid_put_ok (pg : Pg c) {as : List Addr} {f : Nat → List PV} {A D p x y : Nat} {r : List Int} (hp : p < many) (hx : x < A) (hy : y < D) (hA : A ≤ 100) (hD : D ≤ 100) (hm : many ≤ 100) (hl : as.length = many * D) (hnd : as.Nodup)
    (hf : ∀ i, i < as.length → (f i).length = A) (hr : r.length ≤ 1000) (hq : Q .none (muF μ as (fun j => if j = p * D + y then (f j).set x (.list (iL r)) else f j))) :
    WC c 1 (.ref 741) [gridM n as D many, .int p, .int x, .int y, .list (iL r)] (muF μ as f) Q := by
  have hlt : p * D + y < as.length := by
    have h1 : (p + 1) * D ≤ many * D := Nat.mul_le_mul_right D hp
    rw [Nat.succ_mul] at h1
    lia
  have ha : as[p * D + y]? = some (as.getD (p * D + y) 0) := by rw [List.getD_eq_getElem?_getD, List.getElem?_eq_getElem hlt]; rfl
  refine WC_def pg.G75_2 pg.ok.lim rfl rfl (WSs_cons ?_)
  walk_at "go"
  refine WO_list (by rw [iL_length]; lia) ?_
  walk_at "go"
  refine WO_get_list (Int.natCast_nonneg _) (castL hp (by assumption) (by decide)) (get_range hp) ?_
  unfold ptrs
  walk_at "go"
  refine WO_get_list (Int.natCast_nonneg _) (castL hy (by assumption) (by decide)) (get_range hy) ?_
  walk_at "go"
  refine WO_set_ptr (muF_at hnd ha) (by lia) (by rw [hf _ hlt]; lia) (by rw [hf _ hlt]; lia) ?_
  walk_at "go"
  rw [muF_set hnd ha, Int.toNat_natCast]
  have e : (fun j => if j = p * D + y then (f (p * D + y)).set x (PV.list (iL r)) else f j) = (fun j => if j = p * D + y then (f j).set x (PV.list (iL r)) else f j) := by
    funext j; split
    · rename_i e; rw [e]
    · rfl
  rw [e]
  exact hq
noncomputable def planeM (w h : Int) (as : List Addr) : PV := planeP w h (.list (as.map .ptr))
theorem as_get {as : List Addr} {i : Nat} (h : i < as.length) : (as.map PV.ptr)[(i : Int).toNat]? = some (.ptr as[i]) := by
  rw [Int.toNat_natCast, List.getElem?_map, List.getElem?_eq_getElem h]; rfl
theorem min_nat (a b : Nat) : (if (b : Int) < (a : Int) then (b : Int) else (a : Int)) = ((min a b : Nat) : Int) := by split <;> lia
noncomputable def pS (N x y : Nat) (B : List Int) (ce mo : Int) (S : Nat → Nat → Int) (r q i j : Nat) : Int :=
  if i / N = y ∧ j / N = x ∧ (i % N < r ∨ (i % N = r ∧ j % N < q)) then clampF (B.getD (i % N * N + j % N) 0 + ce) mo else S i j
noncomputable def pE0 (N x y : Nat) (B : List Int) (ce mo : Int) (S : Nat → Nat → Int) (i j : Nat) : Int :=
  if i / N = y ∧ j / N = x then clampF (B.getD (i % N * N + j % N) 0 + ce) mo else S i j
section
variable {N x y : Nat} {B : List Int} {ce mo : Int} {S : Nat → Nat → Int} {r q i j W H : Nat}
theorem ite_iff {α : Type} {p p' : Prop} [Decidable p] [Decidable p'] {a b : α} (h : p ↔ p') : (if p then a else b) = (if p' then a else b) := by
  by_cases hp : p
  · rw [if_pos hp, if_pos (h.mp hp)]
  · rw [if_neg hp, if_neg fun e => hp (h.mpr e)]
theorem pS_0 : pS N x y B ce mo S 0 0 i j = S i j := if_neg fun h => by
  rcases h.2.2 with h | h
  · exact Nat.not_lt_zero _ h
  · exact Nat.not_lt_zero _ h.2
theorem dv {n y r : Nat} (hr : r < n) : (y * n + r) / n = y := by rw [Nat.mul_comm, Nat.mul_add_div (Nat.zero_lt_of_lt hr), Nat.div_eq_of_lt hr, Nat.add_zero]
theorem md {n y r : Nat} (hr : r < n) : (y * n + r) % n = r := by rw [Nat.mul_comm, Nat.mul_add_mod, Nat.mod_eq_of_lt hr]
theorem dm (i n : Nat) : i / n * n + i % n = i := by rw [Nat.mul_comm]; exact Nat.div_add_mod i n
theorem at_iff {n y r i : Nat} (hr : r < n) : i = y * n + r ↔ i / n = y ∧ i % n = r := ⟨fun e => e ▸ ⟨dv hr, md hr⟩, fun e => by rw [← e.1, ← e.2]; exact (dm i n).symm⟩
theorem mod_min {n x j W : Nat} (h0 : 0 < n) (hj : j < W) (h : j / n = x) : j % n < min n (W - x * n) :=
  Nat.lt_min.mpr ⟨Nat.mod_lt _ h0, Nat.lt_sub_of_add_lt (by rw [Nat.add_comm, ← h, dm]; exact hj)⟩
theorem pS_row (h0 : 0 < N) (hj : j < W) : pS N x y B ce mo S r (min N (W - x * N)) i j = pS N x y B ce mo S (r + 1) 0 i j := by
  refine ite_iff (and_congr_right fun _ => and_congr_right fun h => ?_)
  have hq : j % N < min N (W - x * N) := mod_min h0 hj h
  constructor
  · intro h'
    exact .inl (h'.elim (fun h' => Nat.lt_succ_of_lt h') fun h' => Nat.lt_succ_of_le (Nat.le_of_eq h'.1))
  · intro h'
    rcases h' with h' | h'
    · exact (Nat.lt_succ_iff_lt_or_eq.mp h').imp id fun e => ⟨e, hq⟩
    · exact absurd h'.2 (Nat.not_lt_zero _)
theorem pS_end (h0 : 0 < N) (hi : i < H) : pS N x y B ce mo S (min N (H - y * N)) 0 i j = pE0 N x y B ce mo S i j := by
  exact ite_iff ⟨fun h => ⟨h.1, h.2.1⟩, fun h => ⟨h.1, h.2, .inl (mod_min h0 hi h.1)⟩⟩
theorem pS_step (hr : r < N) (hq : q < N) (hi : i = y * N + r) : pS N x y B ce mo S r (q + 1) i j = if j = x * N + q then clampF (B.getD (r * N + q) 0 + ce) mo else pS N x y B ce mo S r q i j := by
  have e1 := (at_iff hr).mp hi
  have e2 : j = x * N + q ↔ j / N = x ∧ j % N = q := at_iff hq
  unfold pS
  rw [e1.1, e1.2]
  by_cases hj : j = x * N + q
  · obtain ⟨h1, h2⟩ := e2.mp hj
    rw [if_pos hj, h1, h2, if_pos ⟨rfl, rfl, .inr ⟨rfl, Nat.lt_succ_self _⟩⟩]
  · rw [if_neg hj]
    refine ite_iff (and_congr_right fun _ => and_congr_right fun h => or_congr_right (and_congr_right fun _ => ⟨fun h' => ?_, Nat.lt_succ_of_lt⟩))
    exact (Nat.lt_succ_iff_lt_or_eq.mp h').resolve_right fun e => hj (e2.mpr ⟨h, e⟩)
theorem pS_other (hr : r < N) (hi : i ≠ y * N + r) : pS N x y B ce mo S r (q + 1) i j = pS N x y B ce mo S r q i j := by
  exact ite_iff (and_congr_right fun h => and_congr_right fun _ => or_congr_right (and_congr_right fun h2 => absurd ((at_iff hr).mpr ⟨h, h2⟩) hi))
end
noncomputable def bM (μ : Mu) (as : List Addr) (W N x y : Nat) (B : List Int) (ce mo : Int) (S : Nat → Nat → Int) (r q : Nat) : Mu := muF μ as (fun i => rowF W (pS N x y B ce mo S r q i))
section
variable {as : List Addr} {W H x y N : Nat} {S : Nat → Nat → Int} {B : List Int} {ce mo : Int} {r q : Nat}
theorem bM_0 : bM μ as W N x y B ce mo S 0 0 = muF μ as (fun i => rowF W (S i)) := muF_congr fun i _ => rowF_congr fun j _ => pS_0
theorem bM_row (h0 : 0 < N) : bM μ as W N x y B ce mo S r (min N (W - x * N)) = bM μ as W N x y B ce mo S (r + 1) 0 := muF_congr fun i _ => rowF_congr fun j hj => pS_row h0 hj
theorem bM_end (h0 : 0 < N) (hl : as.length = H) : bM μ as W N x y B ce mo S (min N (H - y * N)) 0 = muF μ as (fun i => rowF W (pE0 N x y B ce mo S i)) :=
  muF_congr fun i hi => rowF_congr fun j _ => pS_end h0 (hl ▸ hi)
theorem bM_at (hnd : as.Nodup) (hrow : y * N + r < as.length) : bM μ as W N x y B ce mo S r q as[y * N + r] = some (.list (rowF W (pS N x y B ce mo S r q (y * N + r)))) := muF_at hnd (List.getElem?_eq_getElem hrow)
theorem bM_step (hr : r < N) (hq : q < N) (hnd : as.Nodup) (hrow : y * N + r < as.length) :
    (bM μ as W N x y B ce mo S r q).set as[y * N + r] (.list ((rowF W (pS N x y B ce mo S r q (y * N + r))).set (x * N + q) (.int (clampF (B.getD (r * N + q) 0 + ce) mo)))) = bM μ as W N x y B ce mo S r (q + 1) := by
  unfold bM
  rw [muF_set hnd (List.getElem?_eq_getElem hrow)]
  refine muF_congr fun i _ => ?_
  by_cases hi : i = y * N + r
  · rw [if_pos hi, rowF_set]
    exact rowF_congr fun j _ => by rw [pS_step hr hq hi, hi]
  · rw [if_neg hi]
    exact rowF_congr fun j _ => (pS_other hr hi).symm
end
theorem put_block_ok (pg : Pg c) {as : List Addr} {W H x y N : Nat} {S : Nat → Nat → Int} {B : List Int} {ce mo : Int} (hN : N = 1 ∨ N = 2) (hW : W ≤ 100) (hH : H ≤ 100) (hx : x * N ≤ W) (hy : y * N ≤ H) (hl : as.length = H) (hnd : as.Nodup) (hB : B.length = N * N)
    (hq : Q .none (muF μ as (fun i => rowF W (pE0 N x y B ce mo S i)))) :
    WC c 2 (.ref 28) [planeM W H as, .int x, .int y, .list (iL B), .int N, .int ce, .int mo] (muF μ as (fun i => rowF W (S i))) Q := by
  have e1 : ((W : Int) - (x : Int) * (N : Int)) = ((W - x * N : Nat) : Int) := by
    rw [Int.ofNat_sub hx]; rfl
  have e2 : ((H : Int) - (y : Int) * (N : Int)) = ((H - y * N : Nat) : Int) := by
    rw [Int.ofNat_sub hy]; rfl
  have hNa : (N : Int).natAbs < 2 ^ 64 := by rcases hN with rfl | rfl <;> decide
  have hN2 : N ≤ 2 := by rcases hN with rfl | rfl <;> decide
  have hN0 : 0 < N := by rcases hN with rfl | rfl <;> decide
  have hm : ∀ t, min N t ≤ 1000000 := fun t => Nat.le_trans (Nat.min_le_left _ _) (Nat.le_trans hN2 (by decide))
  rw [← bM_0 (N := N) (x := x) (y := y) (B := B) (ce := ce) (mo := mo)]
  refine WC_def pg.F2 pg.ok.lim rfl rfl (WSs_cons ?_)
  walk_at "go"
  refine WO_mul (.inr hNa) ?_
  walk_at "go"
  refine WO_min2 ?_
  rw [e1, min_nat]
  generalize hwq : min N (W - x * N) = wq
  walk_at "go"
  refine WS_ForR (σ := Unit) rfl rfl (.inl rfl) ?_
  walk_at "go"
  refine WO_mul (.inr hNa) ?_
  walk_at "go"
  refine WO_min2 ?_
  rw [e2, min_nat]
  walk_at "go"
  let L : Nat → Unit → Rho := fun _ _ => [("wide", .int (wq : Nat)), ("plane", planeM W H as), ("x", .int x), ("y", .int y), ("block", .list (iL B)), ("n", .int N), ("centre", .int ce), ("most", .int mo)]
  let I : Nat → Unit → Prop := fun _ _ => True
  refine ⟨min N (H - y * N), L, fun r _ => bM μ as W N x y B ce mo S r 0, I, (), rfl, hm _, trivial, .of rfl, .refl _, fun r t hr _ => ?_, fun t ρ' μ' _ hL hM => ?_⟩
  · have hrN : r < N := Nat.lt_of_lt_of_le hr (Nat.min_le_left _ _)
    have hrH : y * N + r < H := Nat.add_lt_of_lt_sub' (Nat.lt_of_lt_of_le hr (Nat.min_le_right _ _))
    have hrow : y * N + r < as.length := hl ▸ hrH
    walk_at "go"
    refine WO_mul (.inr hNa) ?_
    walk_at "go"
    refine WO_get_list (v := .ptr as[y * N + r]) (Int.natCast_nonneg (y * N + r)) (Int.lt_of_lt_of_le (Int.ofNat_lt.mpr (Nat.lt_of_lt_of_le hrH hH)) (by decide)) (as_get hrow) ?_
    walk_at "go"
    refine WS_ForR (σ := Unit) rfl rfl (.inl rfl) ?_
    walk_at "go"
    let L : Nat → Unit → Rho := fun _ _ => [("row", .int r), ("told", .ptr as[y * N + r]), ("wide", .int (wq : Nat)), ("plane", planeM W H as), ("x", .int x), ("y", .int y), ("block", .list (iL B)), ("n", .int N), ("centre", .int ce), ("most", .int mo)]
    let I : Nat → Unit → Prop := fun _ _ => True
    refine ⟨wq, L, fun q _ => bM μ as W N x y B ce mo S r q, I, (), rfl, hwq ▸ hm _, trivial, .of rfl, .refl _, fun q t hq' _ => ?_, fun t ρ' μ' _ hL hM => ?_⟩
    · have hq2 : q < min N (W - x * N) := hwq ▸ hq'
      have hqN : q < N := Nat.lt_of_lt_of_le hq2 (Nat.min_le_left _ _)
      have hcol : x * N + q < W := Nat.add_lt_of_lt_sub' (Nat.lt_of_lt_of_le hq2 (Nat.min_le_right _ _))
      have hrn : r * N + q < B.length := by rw [hB]; exact Nat.lt_of_lt_of_le (Nat.add_lt_add_left hqN _) (by have := Nat.mul_le_mul_right N hrN; rwa [Nat.succ_mul] at this)
      walk_at "go"
      refine WO_mul (.inr hNa) ?_
      walk_at "go"
      have eB : B[((r * N + q : Nat) : Int).toNat]? = some (B.getD (r * N + q) 0) := by rw [Int.toNat_natCast, List.getD_eq_getElem?_getD, List.getElem?_eq_getElem hrn]; rfl
      refine WO_get_list (v := .int (B.getD (r * N + q) 0)) (Int.natCast_nonneg (r * N + q)) (Int.lt_of_lt_of_le (Int.ofNat_lt.mpr (Nat.lt_of_lt_of_le hrn (hB ▸ Nat.mul_le_mul hN2 hN2))) (by decide)) (iL_get eB) ?_
      walk_at "go"
      refine WO.le (j := 1) (WO_call (clamped_ok pg.ok pg.F1 ?_)) (by decide)
      walk_at "go"
      refine WO_mul (.inr hNa) ?_
      walk_at "go"
      refine WO_set_ptr (bM_at hnd hrow) (Int.natCast_nonneg (x * N + q)) (by rw [rowF_length]; exact hcol) (by rw [rowF_length]; exact Nat.le_trans hW (by decide)) ?_
      walk_at "go"
      refine ⟨(), trivial, .of rfl, ?_⟩
      exact Mu.le_eq (bM_step hrN hqN hnd hrow)
    · refine WSs_weak hL hM (WSs_nil ⟨(), trivial, .of rfl, ?_⟩)
      exact Mu.le_eq ((congrArg _ hwq.symm).trans (bM_row hN0))
  · refine WSs_weak hL hM (WSs_nil ?_)
    show Q .none (bM μ as W N x y B ce mo S (min N (H - y * N)) 0)
    rw [bM_end hN0 hl]
    exact hq
end
section
variable {c : Cx} {k : Nat} {μ : Mu} {Q : PV → Mu → Prop}
noncomputable def upN (w n : Nat) : Nat := (w + n - 1) / n
theorem up_nat {w n : Nat} (hn : n = 1 ∨ n = 2) : up (w : Int) (n : Int) = ((upN w n : Nat) : Int) := by
  unfold up upN
  have e : ((w : Int) + (n : Int) - 1) = ((w + n - 1 : Nat) : Int) := by lia
  rw [e, Int.fdiv_eq_ediv_of_nonneg _ (by lia)]
  rfl
theorem upN_le {w n : Nat} (hn : n = 1 ∨ n = 2) : upN w n ≤ w := by unfold upN; rcases hn with rfl | rfl <;> lia
theorem upN_in {w n x : Nat} (hn : n = 1 ∨ n = 2) (hx : x < upN w n) : x * n ≤ w := by unfold upN at hx; rcases hn with rfl | rfl <;> lia
theorem upN_of {w n j : Nat} (hn : n = 1 ∨ n = 2) (hj : j < w) : j / n < upN w n := by unfold upN; rcases hn with rfl | rfl <;> lia
noncomputable def ceI (b : Nat) : Int := 2 ^ (b - 1)
noncomputable def moI (b : Nat) : Int := 2 ^ b - 1
noncomputable def fin1 (n b : Nat) (G : Nat → Nat → List Int) (q : List Int) (i j : Nat) : Int := clampF ((spl n (G (i / n) (j / n)) q).getD (i % n * n + j % n) 0 + ceI b) (moI b)
noncomputable def qS (n : Nat) (F : Nat → Nat → Int) (y x r i j : Nat) : Int := if i / n < y ∨ (i / n = y ∧ (j / n < x ∨ (j / n = x ∧ i % n < r))) then F i j else 0
section
variable {n y x r i j a d : Nat} {F : Nat → Nat → Int}
theorem qS_0 : qS n F 0 0 0 i j = 0 := if_neg fun h => by
  rcases h with h | ⟨_, h | h⟩
  · exact Nat.not_lt_zero _ h
  · exact Nat.not_lt_zero _ h
  · exact Nat.not_lt_zero _ h.2
theorem qS_blk (h0 : 0 < n) : qS n F y x n i j = qS n F y (x + 1) 0 i j := ite_iff (or_congr_right (and_congr_right fun _ => ⟨fun h => .inl (h.elim Nat.lt_succ_of_lt fun h => Nat.lt_succ_of_le (Nat.le_of_eq h.1)),
  fun h => (Nat.lt_succ_iff_lt_or_eq.mp (h.resolve_right fun h => Nat.not_lt_zero _ h.2)).imp id fun e => ⟨e, Nat.mod_lt _ h0⟩⟩))
theorem qS_row (hj : j / n < a) : qS n F y a 0 i j = qS n F (y + 1) 0 0 i j := ite_iff ⟨fun h => .inl (h.elim Nat.lt_succ_of_lt fun h => Nat.lt_succ_of_le (Nat.le_of_eq h.1)),
  fun h => (h.elim Nat.lt_succ_iff_lt_or_eq.mp fun h => absurd h.2 (fun h => h.elim (Nat.not_lt_zero _) fun h => Nat.not_lt_zero _ h.2)).imp id fun e => ⟨e, .inl hj⟩⟩
theorem qS_end (hi : i / n < d) : qS n F d 0 0 i j = F i j := if_pos (.inl hi)
theorem qS_out (h : ¬ (i / n = y ∧ j / n = x)) : qS n F y x 0 i j = qS n F y (x + 1) 0 i j := ite_iff (or_congr_right (and_congr_right fun e => ⟨fun h' => .inl (h'.elim Nat.lt_succ_of_lt fun h => absurd h.2 (Nat.not_lt_zero _)),
  fun h' => (Nat.lt_succ_iff_lt_or_eq.mp (h'.resolve_right fun h => Nat.not_lt_zero _ h.2)).imp id fun e' => absurd ⟨e, e'⟩ h⟩))
theorem qS_in (h : i / n = y ∧ j / n = x) : qS n F y (x + 1) 0 i j = F i j := if_pos (.inr ⟨h.1, .inl (h.2 ▸ Nat.lt_succ_self _)⟩)
end
noncomputable def qM (μ : Mu) (as : List Addr) (W n : Nat) (F : Nat → Nat → Int) (y x r : Nat) : Mu := muF μ as (fun i => rowF W (qS n F y x r i))
section
variable {as : List Addr} {W n y x a d : Nat} {F : Nat → Nat → Int}
theorem qM_0 : qM μ as W n F 0 0 0 = muF μ as (fun _ => rowF W (fun _ => 0)) := muF_congr fun i _ => rowF_congr fun j _ => qS_0
theorem qM_blk (h0 : 0 < n) : qM μ as W n F y x n = qM μ as W n F y (x + 1) 0 := muF_congr fun i _ => rowF_congr fun j _ => qS_blk h0
theorem qM_row (h : ∀ j, j < W → j / n < a) : qM μ as W n F y a 0 = qM μ as W n F (y + 1) 0 0 := muF_congr fun i _ => rowF_congr fun j hj => qS_row (h j hj)
theorem qM_end (h : ∀ i, i < as.length → i / n < d) : qM μ as W n F d 0 0 = muF μ as (fun i => rowF W (F i)) := muF_congr fun i hi => rowF_congr fun j _ => qS_end (h i hi)
theorem qM_put {B : List Int} {ce mo : Int} (h : ∀ i j, i / n = y → j / n = x → clampF (B.getD (i % n * n + j % n) 0 + ce) mo = F i j) :
    muF μ as (fun i => rowF W (pE0 n x y B ce mo (qS n F y x 0) i)) = qM μ as W n F y (x + 1) 0 := muF_congr fun i _ => rowF_congr fun j _ => by
  by_cases e : i / n = y ∧ j / n = x
  · rw [qS_in e, ← h i j e.1 e.2]
    exact if_pos e
  · rw [← qS_out e]
    exact if_neg e
end
theorem plane_of_ok (pg : Pg c) {n b W H many p : Nat} {G : Nat → Nat → Nat → List Int} {q : List Int} (hn : n = 1 ∨ n = 2) (hb : b = 8 ∨ b = 12) (hW : W ≤ 50) (hH : H ≤ 50) (hp : p < many) (hm : many ≤ 100)
    (hG : ∀ p y x, p < many → y < upN H n → x < upN W n → (G p y x).length = n * n) (hq : q.length = n * n) (hqb : ∀ x ∈ q, x.natAbs < 2 ^ 64) (hQ : Q (planeP W H (tab H W (fin1 n b (G p) q))) μ) :
    WC c 5 (.ref 549) [frameP n b W H many, gridP n (upN W n) (upN H n) many G, .int p, .tuple (iL q)] μ Q := by
  have hnI : (n : Int) = 1 ∨ (n : Int) = 2 := by rcases hn with rfl | rfl <;> decide
  have hA := upN_le (w := W) hn
  have hD := upN_le (w := H) hn
  refine WC_def pg.F54 pg.ok.lim rfl rfl (WSs_cons ?_)
  walk_at "go"
  refine WO.le (j := 2) (WO_call (plane_size_ok pg hp (by lia) (by lia) (by lia) ?_)) (by decide)
  refine WA_Tuple rfl rfl ?_
  walk_at "ass"
  walk_at "go"
  refine WO.le (j := 3) (WO_call (blocks_ok pg hp (by lia) hnI (by lia) (by lia) ?_)) (by decide)
  rw [up_nat hn, up_nat hn]
  refine WA_Tuple rfl rfl ?_
  walk_at "ass"
  refine WSs_cons (WS_Swap rfl rfl (by decide) ?_)
  walk_at "go"
  refine WO_shl (by lia) (by lia) (by decide) ?_
  walk_at "go"
  refine WO_shl (by lia) (by lia) (by decide) ?_
  walk_at "go"
  have e1 : (1 * 2 ^ ((b : Int) - 1).toNat : Int) = ceI b := by rcases hb with rfl | rfl <;> rfl
  have e2 : (1 * 2 ^ ((b : Int)).toNat - 1 : Int) = moI b := by rcases hb with rfl | rfl <;> rfl
  rw [e1, e2]
  refine ⟨by simp, _, rfl, rfl, ?_⟩
  dsimp only [List.reverse, List.reverseAux, List.zip, List.zipWith, List.foldl]
  walk_at "go"
  refine WO.le (j := 3) (WO_call (blank_ok pg (Nat.le_trans (by assumption) (by decide)) (Nat.le_trans (by assumption) (by decide)) fun as hl hnd hfr => ?_)) (by decide)
  have ez : muF μ as (fun _ => List.replicate W (PV.int 0)) = qM μ as W n (fin1 n b (G p) q) 0 0 0 := by rw [qM_0, rowF_rep]
  rw [ez]
  have hn0 : 0 < n := by rcases hn with rfl | rfl <;> decide
  generalize hF : fin1 n b (G p) q = F at hQ
  have hA5 : upN W n ≤ 50 := Nat.le_trans hA hW
  have hD5 : upN H n ≤ 50 := Nat.le_trans hD hH
  walk_at "go"
  refine WS_ForR (σ := Unit) rfl rfl (.inl rfl) ?_
  walk_at "go"
  let L : Nat → Unit → Rho := fun _ _ => [("plane", planeM W H as), ("across", .int (upN W n : Nat)), ("grid", gridP n (upN W n) (upN H n) many G), ("place", .int p), ("qtable", .tuple (iL q)), ("frame", frameP n b W H many), ("centre", .int (ceI b)), ("most", .int (moI b))]
  let I : Nat → Unit → Prop := fun _ _ => True
  refine ⟨upN H n, L, fun y _ => qM μ as W n F y 0 0, I, (), rfl, Nat.le_trans hD5 (by decide), trivial, .of rfl, .refl _, fun y t hy _ => ?_, fun t ρ' μ' _ hL hM => ?_⟩
  · walk_at "go"
    refine WS_ForR (σ := Unit) rfl rfl (.inl rfl) ?_
    walk_at "go"
    let L : Nat → Unit → Rho := fun _ _ => [("y", .int y), ("plane", planeM W H as), ("across", .int (upN W n : Nat)), ("grid", gridP n (upN W n) (upN H n) many G), ("place", .int p), ("qtable", .tuple (iL q)), ("frame", frameP n b W H many), ("centre", .int (ceI b)), ("most", .int (moI b))]
    let I : Nat → Unit → Prop := fun _ _ => True
    refine ⟨upN W n, L, fun x _ => qM μ as W n F y x 0, I, (), rfl, Nat.le_trans hA5 (by decide), trivial, .of rfl, .refl _, fun x t hx _ => ?_, fun t ρ' μ' _ hL hM => ?_⟩
    · refine WSs_cons (WS_Expr rfl ?_)
      walk_at "go"
      refine WO.le (j := 1) (WO_call (grid_get_ok pg hp hx hy (by omega) (by omega) hm ?_)) (by decide)
      walk_at "go"
      have hlen : (G p y x).length = ((n : Int) * (n : Int)).toNat := by rw [hG p y x hp hy hx]; exact (Int.toNat_natCast (n * n)).symm
      have hlq : q.length = ((n : Int) * (n : Int)).toNat := by rw [← hlen, hq, hG p y x hp hy hx]
      refine WO_call (sample_block_ok hnI hlen hlq hqb pg ?_)
      walk_at "go"
      refine WO.le (j := 2) (WO_call (put_block_ok (S := qS n F y x 0) pg hn (by omega) (by omega) (upN_in hn hx) (upN_in hn hy) hl hnd (by rw [spl_length hnI hlen, ← hlen, hG p y x hp hy hx]) ?_)) (by decide)
      rw [qM_put (F := F) fun i j e1 e2 => by rw [← hF]; unfold fin1; rw [e1, e2]]
      refine ⟨rfl, ?_⟩
      walk_at "go"
      exact ⟨(), trivial, .of rfl, .refl _⟩
    · refine WSs_weak hL hM (WSs_nil ⟨(), trivial, .of rfl, ?_⟩)
      exact Mu.le_eq (qM_row fun j hj => upN_of hn hj)
  · refine WSs_weak hL hM ?_
    show WSs _ _ _ _ (qM μ as W n F (upN H n) 0 0) _ _
    rw [qM_end fun i hi => upN_of hn (hl ▸ hi)]
    refine WSs_frzF [("plane", planeP W H (tab H W (F)))] hnd hfr ⟨⟨_, rfl, ?_⟩, trivial⟩ ?_
    · have := FrzF.inst (c := c) (cls := "Plane") (n := "rows") [("width", .int W), ("height", .int H)] [] (FrzF.rows (c := c) (as := as) (f := fun i => rowF W (F i)))
      rw [hl] at this
      exact this
    · walk_at "go"
      exact hQ
end
section
variable {c : Cx} {k : Nat} {μ : Mu} {Q : PV → Mu → Prop}
theorem first_planes_ok (pg : Pg c) {n b W H many : Nat} {G : Nat → Nat → Nat → List Int} {q : Nat → List Int} (hn : n = 1 ∨ n = 2) (hb : b = 8 ∨ b = 12) (hW : W ≤ 50) (hH : H ≤ 50) (hm : many ≤ 100)
    (hG : ∀ p y x, p < many → y < upN H n → x < upN W n → (G p y x).length = n * n) (hq : ∀ p, p < many → (q p).length = n * n) (hqb : ∀ p, p < many → ∀ x ∈ q p, x.natAbs < 2 ^ 64)
    (hQ : Q (.list ((List.range many).map fun p => planeP W H (tab H W (fin1 n b (G p) (q p))))) μ) :
    WC c 6 (.ref 607) [frameP n b W H many, gridP n (upN W n) (upN H n) many G, .list ((List.range many).map fun p => .tuple (iL (q p)))] μ Q := by
  refine WC_def pg.F67 pg.ok.lim rfl rfl (WSs_cons (WS_Return ?_))
  refine WE_CompR [("frame", frameP n b W H many), ("grid", gridP n (upN W n) (upN H n) many G), ("quant", .list ((List.range many).map fun p => .tuple (iL (q p))))] (fun p => planeP W H (tab H W (fin1 n b (G p) (q p)))) rfl rfl rfl rfl (.inl rfl) ?_
  walk_at "go"
  refine WO_len_list (len_mr (by assumption) (by decide)) ?_
  rw [List.length_map, List.length_range]
  walk_at "go"
  refine ⟨many, rfl, Nat.le_trans (by assumption) (by decide), fun p hp => ?_, hQ⟩
  walk_at "go"
  refine WO_get_list (Int.natCast_nonneg _) (castL hp (by assumption) (by decide)) (get_range hp) ?_
  walk_at "go"
  exact WO_call (plane_of_ok pg hn hb hW hH hp hm hG (hq p hp) (hqb p hp) ⟨rfl, rfl⟩)
theorem tab_row {H W y : Nat} {S : Nat → Nat → Int} (h : y < H) : ((List.range H).map fun y => PV.list ((List.range W).map fun x => .int (S y x)))[(y : Int).toNat]? = some (.list (rowF W (S y))) := get_range h
theorem added_ok (pg : Pg c) {W H : Nat} {S T : Nat → Nat → Int} {mo : Int} (hW : W ≤ 1000) (hH : H ≤ 1000) (hQ : Q (planeP W H (tab H W (fun y x => clampF (S y x + T y x) mo))) μ) :
    WC c 3 (.ref 554) [planeP W H (tab H W S), tab H W T, .int mo] μ Q := by
  refine WC_def pg.F56 pg.ok.lim rfl rfl (WSs_cons ?_)
  refine WS_Assign (WE_ListM (WEs_nil ⟨by decide, fun a ha => ?_⟩)) rfl rfl rfl
  walk_at "go"
  refine WS_ForR (σ := Unit) rfl rfl (.inr ⟨rfl, by with_unfolding_all decide⟩) ?_
  walk_at "go"
  refine ⟨H, fun _ _ => [("reference", planeP W H (tab H W S)), ("rows", tab H W T), ("most", .int mo), ("found", .ptr a)], fun i _ => μ.set a (.list ((List.range i).map fun y => .list (rowF W (fun x => clampF (S y x + T y x) mo)))), fun _ _ => True, (), rfl, Nat.le_trans (by assumption) (by decide), trivial, .of rfl, .refl _, fun y t hy _ => ?_, fun t ρ' μ' _ hL hM => ?_⟩
  · walk_at "go"
    unfold tab
    walk_at "go"
    refine WO_get_list (Int.natCast_nonneg _) (castL hy (by assumption) (by decide)) (tab_row hy) ?_
    walk_at "go"
    refine WS_app rfl rfl rfl rfl rfl (Mu.set_self ..) ?_
    refine WE_CompR [("line", .list (rowF W (S y))), ("rows", tab H W T), ("y", .int y), ("most", .int mo)] (fun x => .int (clampF (S y x + T y x) mo)) rfl rfl rfl rfl (.inl rfl) ?_
    walk_at "go"
    refine ⟨W, rfl, Nat.le_trans (by assumption) (by decide), fun x hx => ?_, ?_⟩
    · walk_at "go"
      refine WO_get_list (v := .int (S y x)) (Int.natCast_nonneg _) (castL hx (by assumption) (by decide)) (rowF_get hx) ?_
      unfold tab
      walk_at "go"
      refine WO_get_list (Int.natCast_nonneg _) (castL hy (by assumption) (by decide)) (tab_row hy) ?_
      walk_at "go"
      refine WO_get_list (v := .int (T y x)) (Int.natCast_nonneg _) (castL hx (by assumption) (by decide)) (rowF_get hx) ?_
      walk_at "go"
      exact WO.le (j := 1) (WO_call (clamped_ok pg.ok pg.F1 ⟨rfl, rfl⟩)) (by decide)
    · refine ⟨_, Mu.set_self .., by simp; lia, ?_⟩
      walk_at "go"
      refine ⟨(), trivial, .of rfl, ?_⟩
      (try dsimp only)
      rw [Mu.set_set, List.range_succ, List.map_append]
      exact .refl _
  · (try dsimp only at hL hM)
    refine WSs_weak hL hM ?_
    refine WSs_frz (a := a) (l := (List.range H).map fun y => .list (rowF W (fun x => clampF (S y x + T y x) mo))) [("reference", planeP W H (tab H W S)), ("found", tab H W (fun y x => clampF (S y x + T y x) mo))] (Mu.set_self ..) (by repeat first | exact trivial | refine ⟨⟨_, rfl, by first | exact Frz.refl _ _ _ | exact Frz.ptr _ _⟩, ?_⟩) ?_
    rw [Mu.del_set ha]
    walk_at "go"
    refine WE_CallN pg.ok rfl (.inl pg.h4) rfl (callee_cls pg.ok pg.k4) rfl ?_
    walk_at "go"
    exact WO_call (plane_ok pg hQ)
theorem rowF_take {W W' : Nat} {g : Nat → Int} (h : W ≤ W') : (rowF W' g).take W = rowF W g := by
  unfold rowF
  rw [← List.map_take, List.take_range, Nat.min_eq_left h]
theorem rowF_add (a b : Nat) (g : Nat → Int) : rowF (a + b) g = rowF a g ++ rowF b (fun j => g (a + j)) := by
  unfold rowF
  rw [List.range_add, List.map_append, List.map_map]; rfl
theorem rowF_put {W a m : Nat} {g g' : Nat → Int} (h : a + m ≤ W) : (rowF W g).take a ++ rowF m g' ++ (rowF W g).drop (a + m) = rowF W (fun j => if a ≤ j ∧ j < a + m then g' (j - a) else g j) := by
  obtain ⟨k, rfl⟩ := Nat.exists_eq_add_of_le h
  rw [rowF_take (Nat.le_trans (Nat.le_add_right a m) h), rowF_add (a + m) k g, List.drop_left' (rowF_length _ _), rowF_add (a + m) k, rowF_add a m]
  congr 1
  · congr 1
    · exact rowF_congr fun j hj => (if_neg fun e => Nat.not_lt.mpr e.1 hj).symm
    · exact rowF_congr fun j hj => by rw [if_pos ⟨Nat.le_add_right _ _, Nat.add_lt_add_left hj _⟩, Nat.add_sub_cancel_left]
  · exact rowF_congr fun j hj => (if_neg fun e => Nat.not_lt.mpr (Nat.le_add_right _ _) e.2).symm
theorem iL_run {B : List Int} {a m : Nat} (h : a + m ≤ B.length) : ((iL B).drop a).take m = rowF m (fun t => B.getD (a + t) 0) := by
  apply List.ext_getElem
  · simp [iL, rowF]; lia
  · intro i h1 h2
    simp only [rowF, List.length_map, List.length_range] at h2
    simp only [iL, rowF, List.getElem_take, List.getElem_drop, List.getElem_map, List.getElem_range]
    rw [List.getD_eq_getElem?_getD, List.getElem?_eq_getElem (by lia)]; rfl
noncomputable def fin2 (n : Nat) (G : Nat → Nat → List Int) (q : List Int) (i j : Nat) : Int := (spl n (G (i / n) (j / n)) q).getD (i % n * n + j % n) 0
section
variable {n y x r i j W : Nat} {F : Nat → Nat → Int} {as : List Addr}
theorem qS_same (hr : r < n) (hi : i = y * n + r) (hj : x * n ≤ j ∧ j < x * n + n) : qS n F y x (r + 1) i j = F i j := by
  have h1 := (at_iff hr).mp hi
  exact if_pos (.inr ⟨h1.1, .inr ⟨Nat.div_eq_of_lt_le hj.1 (by rw [Nat.succ_mul]; exact hj.2), by rw [h1.2]; exact Nat.lt_succ_self _⟩⟩)
theorem qS_keep (hr : r < n) (h : ¬ (i = y * n + r ∧ x * n ≤ j ∧ j < x * n + n)) : qS n F y x (r + 1) i j = qS n F y x r i j := by
  refine ite_iff (or_congr_right (and_congr_right fun e1 => or_congr_right (and_congr_right fun e2 => ⟨fun e3 => ?_, Nat.lt_succ_of_lt⟩)))
  exact (Nat.lt_succ_iff_lt_or_eq.mp e3).resolve_right fun e4 => h ⟨(at_iff hr).mpr ⟨e1, e4⟩, e2 ▸ Nat.div_mul_le_self j n, e2 ▸ Nat.lt_div_mul_add (Nat.zero_lt_of_lt hr)⟩
theorem qM_line {B : List Int} (hr : r < n) (hnd : as.Nodup) (hrow : y * n + r < as.length) (hB : ∀ t, t < n → B.getD (r * n + t) 0 = F (y * n + r) (x * n + t)) :
    (qM μ as W n F y x r).set as[y * n + r] (.list (rowF W (fun j => if x * n ≤ j ∧ j < x * n + n then B.getD (r * n + (j - x * n)) 0 else qS n F y x r (y * n + r) j))) = qM μ as W n F y x (r + 1) := by
  unfold qM
  rw [muF_set hnd (List.getElem?_eq_getElem hrow)]
  refine muF_congr fun i _ => ?_
  by_cases hi : i = y * n + r
  · rw [if_pos hi]
    refine rowF_congr fun j _ => ?_
    by_cases hj : x * n ≤ j ∧ j < x * n + n
    · rw [if_pos hj, qS_same hr hi hj, hB _ (Nat.sub_lt_left_of_lt_add hj.1 hj.2), Nat.add_sub_cancel' hj.1, hi]
    · rw [if_neg hj, qS_keep hr fun h => hj h.2, hi]
  · rw [if_neg hi]
    exact rowF_congr fun j _ => (qS_keep hr fun h => hi h.1).symm
end
theorem upN_ge {w n : Nat} (hn : n = 1 ∨ n = 2) : w ≤ upN w n * n := by unfold upN; rcases hn with rfl | rfl <;> lia
theorem told_ok (pg : Pg c) {n b W H many p : Nat} {G : Nat → Nat → Nat → List Int} {q : List Int} (hn : n = 1 ∨ n = 2) (hW : W ≤ 50) (hH : H ≤ 50) (hp : p < many) (hm : many ≤ 100)
    (hG : ∀ p y x, p < many → y < upN H n → x < upN W n → (G p y x).length = n * n) (hq : q.length = n * n) (hqb : ∀ x ∈ q, x.natAbs < 2 ^ 64) (hQ : Q (tab H W (fin2 n (G p) q)) μ) :
    WC c 4 (.ref 559) [frameP n b W H many, gridP n (upN W n) (upN H n) many G, .int p, .tuple (iL q)] μ Q := by
  have hnI : (n : Int) = 1 ∨ (n : Int) = 2 := by rcases hn with rfl | rfl <;> decide
  have hA := upN_le (w := W) hn
  have hD := upN_le (w := H) hn
  have hWn : W ≤ upN W n * n := upN_ge hn
  have hHn : H ≤ upN H n * n := upN_ge hn
  have hA5 := Nat.le_trans hA hW
  have hD5 := Nat.le_trans hD hH
  have hWb : upN W n * n ≤ 100 := Nat.mul_le_mul hA5 (n12 hn)
  have hHb : upN H n * n ≤ 100 := Nat.mul_le_mul hD5 (n12 hn)
  have hW1 : W ≤ 100 := Nat.le_trans hW (by decide)
  have hH1 : H ≤ 100 := Nat.le_trans hH (by decide)
  have hA1 : upN W n ≤ 100 := Nat.le_trans hA hW1
  have hD1 : upN H n ≤ 100 := Nat.le_trans hD hH1
  have na : (n : Int).natAbs < 2 ^ 64 := Nat.lt_of_le_of_lt (n12 hn) (by decide)
  have hm1 : many ≤ 1000 := Nat.le_trans hm (by decide)
  have hWI : 0 ≤ (W : Int) ∧ (W : Int) ≤ 1000 := ⟨Int.natCast_nonneg _, Int.le_trans (Int.ofNat_le.mpr hW) (by decide)⟩
  have hHI : 0 ≤ (H : Int) ∧ (H : Int) ≤ 1000 := ⟨Int.natCast_nonneg _, Int.le_trans (Int.ofNat_le.mpr hH) (by decide)⟩
  refine WC_def pg.F57 pg.ok.lim rfl rfl (WSs_cons ?_)
  walk_at "go"
  refine WO.le (j := 2) (WO_call (plane_size_ok pg hp hm1 hWI hHI ?_)) (by decide)
  refine WA_Tuple rfl rfl ?_
  walk_at "ass"
  walk_at "go"
  refine WO_call (blocks_ok pg hp hm1 hnI hWI hHI ?_)
  rw [up_nat hn, up_nat hn]
  refine WA_Tuple rfl rfl ?_
  walk_at "ass"
  walk_at "go"
  refine WS_CompH [("across", .int (upN W n : Nat)), ("n", .int n)] rfl rfl rfl rfl rfl (.inl rfl) rfl (compRows (rowF (upN W n * n) (fun _ => 0)) ?_)
  walk_at "go"
  refine WO_mul (.inr na) ?_
  walk_at "go"
  refine ⟨upN H n * n, by simp, Nat.le_trans hHb (by decide), fun i μ' hi => ?_, fun as hl hnd hfr => ?_⟩
  · walk_at "go"
    refine ⟨by simp, ?_⟩
    walk_at "go"
    refine WO_mul (.inr na) ?_
    have e1 : ((upN W n : Nat) : Int) * (n : Int) = ((upN W n * n : Nat) : Int) := by simp
    rw [e1]
    refine WO_mul_listM (Int.natCast_nonneg _) (by rw [Int.toNat_natCast]; exact (Nat.le_trans (Nat.le_of_eq (Nat.one_mul _)) (Nat.le_trans hWb (by decide)))) (by lia) fun a ha => ?_
    refine ⟨a, rfl, ha, ?_⟩
    rw [Int.toNat_natCast, lm_rep_flat_one, rowF_rep]
  have ez : muF μ as (fun _ => rowF (upN W n * n) (fun _ => 0)) = qM μ as (upN W n * n) n (fin2 n (G p) q) 0 0 0 := qM_0.symm
  rw [ez]
  have hn0 : 0 < n := by rcases hn with rfl | rfl <;> decide
  have hn2 : n ≤ 2 := by rcases hn with rfl | rfl <;> decide
  have hn4 : n * n ≤ 4 := by rcases hn with rfl | rfl <;> decide
  have hna : (n : Int).natAbs < 2 ^ 64 := by rcases hn with rfl | rfl <;> decide
  generalize hF : fin2 n (G p) q = F at hQ
  have hA5 : upN W n ≤ 50 := Nat.le_trans hA hW
  have hD5 : upN H n ≤ 50 := Nat.le_trans hD hH
  try dsimp only
  refine WSs_cons (WS_ForR (σ := Unit) rfl rfl (.inl rfl) ?_)
  walk_at "go"
  refine ⟨upN H n, fun _ _ => [("rows", .list (as.map .ptr)), ("width", .int W), ("height", .int H), ("across", .int (upN W n : Nat)), ("n", .int n), ("grid", gridP n (upN W n) (upN H n) many G), ("place", .int p), ("qtable", .tuple (iL q))],
    fun y _ => qM μ as (upN W n * n) n F y 0 0, fun _ _ => True, (), rfl, Nat.le_trans hD5 (by decide), trivial, .of rfl, .refl _, fun y t hy _ => ?_, fun t ρ' μ' _ hL hM => ?_⟩
  · walk_at "go"
    refine WS_ForR (σ := Unit) rfl rfl (.inl rfl) ?_
    walk_at "go"
    refine ⟨upN W n, fun _ _ => [("y", .int y), ("rows", .list (as.map .ptr)), ("width", .int W), ("height", .int H), ("across", .int (upN W n : Nat)), ("n", .int n), ("grid", gridP n (upN W n) (upN H n) many G), ("place", .int p), ("qtable", .tuple (iL q))],
      fun x _ => qM μ as (upN W n * n) n F y x 0, fun _ _ => True, (), rfl, Nat.le_trans hA5 (by decide), trivial, .of rfl, .refl _, fun x t hx _ => ?_, fun t ρ' μ' _ hL hM => ?_⟩
    · have hlen : (G p y x).length = ((n : Int) * (n : Int)).toNat := by rw [hG p y x hp hy hx]; exact (Int.toNat_natCast (n * n)).symm
      have hlq : q.length = ((n : Int) * (n : Int)).toNat := by rw [← hlen, hq, hG p y x hp hy hx]
      have hBl : (spl n (G p y x) q).length = n * n := by rw [spl_length hnI hlen, ← hlen, hG p y x hp hy hx]
      (try dsimp only)
      walk_at "go"
      refine WO.le (j := 1) (WO_call (grid_get_ok pg hp hx hy (by omega) (by omega) hm ?_)) (by decide)
      walk_at "go"
      refine WO.le (j := 1) (WO_call (dequantise_ok pg.ok pg pg.F8 (by rw [hlq, hlen]; exact Nat.le_refl _) (by rw [hG p y x hp hy hx]; omega) hqb ?_)) (by decide)
      walk_at "go"
      refine WO_call (to_block_ok hnI (by rw [mulL_length, hlen]) pg ?_)
      walk_at "go"
      refine WO_call (inverse_ok hnI (by rw [mulL_length, hlen]) pg ?_)
      walk_at "go"
      refine WS_ForR (σ := Unit) rfl rfl (.inl rfl) ?_
      walk_at "go"
      refine ⟨n, fun _ _ => [("block", .list (iL (spl n (G p y x) q))), ("x", .int x), ("y", .int y), ("rows", .list (as.map .ptr)), ("width", .int W), ("height", .int H), ("across", .int (upN W n : Nat)), ("n", .int n), ("grid", gridP n (upN W n) (upN H n) many G), ("place", .int p), ("qtable", .tuple (iL q))],
        fun r _ => qM μ as (upN W n * n) n F y x r, fun _ _ => True, (), rfl, Nat.le_trans hn2 (by decide), trivial, .of rfl, .refl _, fun r t hr _ => ?_, fun t ρ' μ' _ hL hM => ?_⟩
      · have hrow : y * n + r < as.length := by
          have h1 : (y + 1) * n ≤ upN H n * n := Nat.mul_le_mul_right n hy
          rw [Nat.succ_mul] at h1
          omega
        have hcol : x * n + n ≤ upN W n * n := by
          have h1 : (x + 1) * n ≤ upN W n * n := Nat.mul_le_mul_right n hx
          rwa [Nat.succ_mul] at h1
        have hrb : r * n + n ≤ n * n := by
          have h1 : (r + 1) * n ≤ n * n := Nat.mul_le_mul_right n hr
          rwa [Nat.succ_mul] at h1
        (try dsimp only)
        refine WSs_cons (WS_Assign (WE_Run ?_) rfl rfl rfl)
        walk_at "go"
        refine WO_mul (.inr hna) ?_
        walk_at "go"
        refine WO_mul (.inr hna) ?_
        walk_at "go"
        have ei : ((r : Int) * (n : Int)) = ((r * n : Nat) : Int) := rfl
        have ey : ((y : Int) * (n : Int) + (r : Int)) = ((y * n + r : Nat) : Int) := rfl
        have ej : ((r : Int) * (n : Int) + (n : Int)) = ((r * n + n : Nat) : Int) := rfl
        refine ⟨_, _, _, rfl, rfl, rfl, Int.natCast_nonneg (r * n), Int.ofNat_le.mpr (Nat.le_add_right (r * n) n), by rw [ej, iL_length, hBl]; exact Int.ofNat_le.mpr hrb, by rw [iL_length, hBl]; exact Nat.le_trans hn4 (by decide), ?_⟩
        rw [ej, ei, Int.toNat_natCast, Int.toNat_natCast, Nat.add_sub_cancel_left, iL_run (by rw [hBl]; exact hrb)]
        refine WA_SubRun ?_
        walk_at "go"
        refine WO_mul (.inr hna) ?_
        walk_at "go"
        rw [ey]
        refine WO_get_list (v := .ptr as[y * n + r]) (Int.natCast_nonneg _) (Int.lt_of_lt_of_le (Int.ofNat_lt.mpr hrow) (by rw [hl]; exact Int.le_trans (Int.ofNat_le.mpr hHb) (by decide))) (as_get hrow) ?_
        walk_at "go"
        refine WO_mul (.inr hna) ?_
        walk_at "go"
        refine WO_mul (.inr hna) ?_
        walk_at "go"
        refine ⟨as[y * n + r], _, x * n, x * n + n, _, rfl, muF_at hnd (List.getElem?_eq_getElem hrow), rfl, rfl, rfl, Nat.le_add_right _ _, by rw [rowF_length]; exact hcol, by rw [rowF_length, rowF_length]; exact Nat.le_trans (Nat.add_le_add hWb hn2) (by decide), ?_⟩
        rw [rowF_put hcol]
        refine WSs_nil ⟨(), trivial, .of rfl, ?_⟩
        refine Mu.le_eq (qM_line hr hnd hrow fun t ht => ?_)
        rw [← hF]
        unfold fin2
        rw [dv hr, md hr, dv ht, md ht]
      · refine WSs_weak hL hM (WSs_nil ⟨(), trivial, .of rfl, ?_⟩)
        exact Mu.le_eq (qM_blk hn0)
    · refine WSs_weak hL hM (WSs_nil ⟨(), trivial, .of rfl, ?_⟩)
      exact Mu.le_eq (qM_row fun j hj => Nat.div_lt_of_lt_mul (by rw [Nat.mul_comm]; exact hj))
  · refine WSs_weak hL hM ?_
    show WSs _ _ _ _ (qM μ as (upN W n * n) n F (upN H n) 0 0) _ _
    rw [qM_end fun i hi => Nat.div_lt_of_lt_mul (by rw [Nat.mul_comm, ← hl]; exact hi)]
    refine WSs_frzF [("rows", .list ((List.range as.length).map fun i => .list (rowF (upN W n * n) (F i)))), ("width", .int W), ("height", .int H)] hnd hfr ⟨⟨_, rfl, FrzF.rows⟩, ⟨_, rfl, .refl _⟩, ⟨_, rfl, .refl _⟩, trivial⟩ ?_
    refine WSs_cons (WS_Return ?_)
    refine WE_CompL [("width", .int W)] (fun p => match p with | .list l => .list (l.take W) | p => p) rfl rfl rfl rfl (.inl rfl) ?_
    refine WE_Upto ?_
    walk_at "go"
    refine ⟨_, _, rfl, rfl, by lia, by simp; lia, _, rfl, by simp; lia, fun r hr => ?_, ?_⟩
    · have hr' := List.mem_of_mem_take hr
      obtain ⟨i, _, rfl⟩ := List.mem_map.mp hr'
      refine WE_Upto ?_
      walk_at "go"
      refine ⟨_, _, rfl, rfl, by lia, by rw [rowF_length]; exact Nat.le_trans (by assumption) (by decide), rfl, rfl⟩
    · have e : (((List.range as.length).map fun i => PV.list (rowF (upN W n * n) (F i))).take ((H : Int)).toNat).map (fun p => match p with | .list l => PV.list (l.take W) | p => p) = (List.range H).map fun i => .list (rowF W (F i)) := by
        rw [Int.toNat_natCast, ← List.map_take, List.take_range, Nat.min_eq_left (by lia), List.map_map]
        apply List.map_congr_left
        intro i _
        show PV.list ((rowF (upN W n * n) (F i)).take W) = _
        rw [rowF_take hWn]
      rw [e]
      exact hQ
theorem next_planes_ok (pg : Pg c) {n b W H many : Nat} {G : Nat → Nat → Nat → List Int} {q : Nat → List Int} {R : Nat → Nat → Nat → Int} (hn : n = 1 ∨ n = 2) (hb : b = 8 ∨ b = 12) (hW : W ≤ 50) (hH : H ≤ 50) (hm : many ≤ 100)
    (hG : ∀ p y x, p < many → y < upN H n → x < upN W n → (G p y x).length = n * n) (hq : ∀ p, p < many → (q p).length = n * n) (hqb : ∀ p, p < many → ∀ x ∈ q p, x.natAbs < 2 ^ 64)
    (hQ : Q (.list ((List.range many).map fun p => planeP W H (tab H W (fun y x => clampF (R p y x + fin2 n (G p) (q p) y x) (moI b))))) μ) :
    WC c 5 (.ref 621) [.list ((List.range many).map fun p => planeP W H (tab H W (R p))), frameP n b W H many, gridP n (upN W n) (upN H n) many G, .list ((List.range many).map fun p => .tuple (iL (q p)))] μ Q := by
  refine WC_def pg.F69 pg.ok.lim rfl rfl (WSs_cons ?_)
  walk_at "go"
  refine WO_shl (by lia) (by lia) (by decide) ?_
  refine WE_int ?_
  refine WO_sub ?_
  have e2 : (1 * 2 ^ ((b : Int)).toNat - 1 : Int) = moI b := by rcases hb with rfl | rfl <;> rfl
  rw [e2]
  refine WA_Name rfl (.inl rfl) ?_
  refine WSs_cons (WS_Assign (WE_ListM (WEs_nil ⟨by decide, fun a ha => ?_⟩)) rfl rfl rfl)
  walk_at "go"
  refine WS_ForR (σ := Unit) rfl rfl (.inl rfl) ?_
  walk_at "go"
  refine WO_len_list (len_mr (by assumption) (by decide)) ?_
  rw [List.length_map, List.length_range]
  walk_at "go"
  refine ⟨many, fun _ _ => [("most", .int (moI b)), ("found", .ptr a), ("reference", .list ((List.range many).map fun p => planeP W H (tab H W (R p)))), ("frame", frameP n b W H many), ("grid", gridP n (upN W n) (upN H n) many G), ("quant", .list ((List.range many).map fun p => .tuple (iL (q p))))],
    fun i _ => μ.set a (.list ((List.range i).map fun p => planeP W H (tab H W (fun y x => clampF (R p y x + fin2 n (G p) (q p) y x) (moI b))))), fun _ _ => True, (), rfl, Nat.le_trans (by assumption) (by decide), trivial, .of rfl, .refl _, fun p t hp _ => ?_, fun t ρ' μ' _ hL hM => ?_⟩
  · (try dsimp only)
    walk_at "go"
    refine WO_get_list (Int.natCast_nonneg _) (castL hp (by assumption) (by decide)) (get_range hp) ?_
    walk_at "go"
    refine WO_call (told_ok pg hn hW hH hp hm hG (hq p hp) (hqb p hp) ?_)
    walk_at "go"
    refine WS_app rfl rfl rfl rfl rfl (Mu.set_self ..) ?_
    walk_at "go"
    refine WO_get_list (Int.natCast_nonneg _) (castL hp (by assumption) (by decide)) (get_range hp) ?_
    walk_at "go"
    refine WO.le (j := 3) (WO_call (added_ok pg (Nat.le_trans (by assumption) (by decide)) (Nat.le_trans (by assumption) (by decide)) ?_)) (by decide)
    refine ⟨_, Mu.set_self .., by simp; lia, ?_⟩
    walk_at "go"
    refine ⟨(), trivial, .of rfl, ?_⟩
    (try dsimp only); rw [Mu.set_set, List.range_succ, List.map_append]
    exact .refl _
  · (try dsimp only at hL hM)
    refine WSs_weak hL hM ?_
    refine WSs_frz (a := a) (l := (List.range many).map fun p => planeP W H (tab H W (fun y x => clampF (R p y x + fin2 n (G p) (q p) y x) (moI b)))) [("found", .list ((List.range many).map fun p => planeP W H (tab H W (fun y x => clampF (R p y x + fin2 n (G p) (q p) y x) (moI b)))))] (Mu.set_self ..) (by repeat first | exact trivial | refine ⟨⟨_, rfl, by first | exact Frz.refl _ _ _ | exact Frz.ptr _ _⟩, ?_⟩) ?_
    rw [Mu.del_set ha]
    walk_at "go"
    exact hQ
end
section
variable {c : Cx} {k : Nat} {μ : Mu} {Q : PV → Mu → Prop}
noncomputable def dbl (g : Nat → Int) (m i : Nat) : Int := if i % 2 = 0 then g (i / 2) else (g (i / 2) + g (min (i / 2 + 1) (m - 1))).fdiv 2
theorem rowF_snoc {n : Nat} {f : Nat → Int} {v : Int} (h : f n = v) : rowF n f ++ [.int v] = rowF (n + 1) f := by
  unfold rowF; rw [List.range_succ, List.map_append, ← h]; rfl
theorem dbl_even (g : Nat → Int) (m k : Nat) : dbl g m (2 * k) = g k := by unfold dbl; rw [if_pos (Nat.mul_mod_right 2 k), Nat.mul_div_cancel_left k (by decide)]
theorem dbl_odd (g : Nat → Int) (m k : Nat) : dbl g m (2 * k + 1) = (g k + g (min (k + 1) (m - 1))).fdiv 2 := by
  unfold dbl; rw [if_neg (by rw [Nat.mul_add_mod]; decide)]
  have : (2 * k + 1) / 2 = k := by rw [Nat.mul_add_div (by decide)]; rfl
  rw [this]
theorem min_next {k m : Nat} (h : k < m) : (if (m : Int) - 1 < (k : Int) + 1 then (m : Int) - 1 else (k : Int) + 1) = ((min (k + 1) (m - 1) : Nat) : Int) := by
  rw [show (m : Int) - 1 = ((m - 1 : Nat) : Int) from (Int.ofNat_sub (Nat.succ_le_of_lt (Nat.zero_lt_of_lt h))).symm]
  exact min_nat (k + 1) (m - 1)
theorem min_lt {k m : Nat} (h : k < m) : min (k + 1) (m - 1) < m := Nat.lt_of_le_of_lt (Nat.min_le_right _ _) (Nat.sub_lt (Nat.zero_lt_of_lt h) Nat.one_pos)
theorem twice_ok (pg : Pg c) {m size : Nat} {g : Nat → Int} (hm : m ≤ 1000) (hs : size ≤ 2 * m) (hQ : Q (.list (rowF size (dbl g m))) μ) : WC c 2 (.ref 573) [.list (rowF m g), .int size] μ Q := by
  refine WC_def pg.F60 pg.ok.lim rfl rfl (WSs_cons ?_)
  refine WS_Assign (WE_ListM (WEs_nil ⟨by decide, fun a ha => ?_⟩)) rfl rfl rfl
  walk_at "go"
  refine WS_ForR (σ := Unit) rfl rfl (.inl rfl) ?_
  walk_at "go"
  refine WO_len_list (by rw [rowF_length]; exact Nat.le_trans (by assumption) (by decide)) ?_
  rw [rowF_length]
  walk_at "go"
  refine ⟨m, fun _ _ => [("samples", .list (rowF m g)), ("size", .int size), ("found", .ptr a)], fun i _ => μ.set a (.list (rowF (2 * i) (dbl g m))), fun _ _ => True, (), rfl, Nat.le_trans (by assumption) (by decide), trivial, .of rfl, .refl _, fun k t hk _ => ?_, fun t ρ' μ' _ hL hM => ?_⟩
  · (try dsimp only)
    walk_at "go"
    refine WO_len_list (by rw [rowF_length]; exact Nat.le_trans (by assumption) (by decide)) ?_
    rw [rowF_length]
    walk_at "go"
    refine WO_min2 ?_
    rw [min_next hk]
    walk_at "go"
    refine WO_get_list (v := .int (g (min (k + 1) (m - 1)))) (Int.natCast_nonneg _) (castL (min_lt hk) (by assumption) (by decide)) (rowF_get (min_lt hk)) ?_
    walk_at "go"
    refine WS_app rfl rfl rfl rfl rfl (Mu.set_self ..) ?_
    walk_at "go"
    refine WO_get_list (v := .int (g k)) (Int.natCast_nonneg _) (castL hk (by assumption) (by decide)) (rowF_get hk) ?_
    refine ⟨_, Mu.set_self .., by rw [rowF_length]; lia, ?_⟩
    rw [Mu.set_set, rowF_snoc (dbl_even g m k)]
    refine WSs_cons ?_
    refine WS_app rfl rfl rfl rfl rfl (Mu.set_self ..) ?_
    walk_at "go"
    refine WO_get_list (v := .int (g k)) (Int.natCast_nonneg _) (castL hk (by assumption) (by decide)) (rowF_get hk) ?_
    walk_at "go"
    refine WO.le (j := 1) (WO_call (between_ok pg.ok pg.F59 ?_)) (by decide)
    refine ⟨_, Mu.set_self .., by rw [rowF_length]; lia, ?_⟩
    rw [Mu.set_set, rowF_snoc (dbl_odd g m k)]
    walk_at "go"
    refine ⟨(), trivial, .of rfl, ?_⟩
    exact .refl _
  · (try dsimp only at hL hM)
    refine WSs_weak hL hM ?_
    refine WSs_frz (a := a) (l := rowF (2 * m) (dbl g m)) [("size", .int size), ("found", .list (rowF (2 * m) (dbl g m)))] (Mu.set_self ..) (by repeat first | exact trivial | refine ⟨⟨_, rfl, by first | exact Frz.refl _ _ _ | exact Frz.ptr _ _⟩, ?_⟩) ?_
    rw [Mu.del_set ha]
    refine WSs_cons (WS_Return (WE_Upto ?_))
    walk_at "go"
    refine ⟨_, _, rfl, rfl, by lia, by rw [rowF_length]; lia, ?_⟩
    rw [Int.toNat_natCast, rowF_take hs]
    exact hQ
theorem across_ok (pg : Pg c) {h m size : Nat} {S : Nat → Nat → Int} (hh : h ≤ 1000) (hm : m ≤ 1000) (hs : size ≤ 2 * m) (hQ : Q (tab h size (fun y => dbl (S y) m)) μ) : WC c 3 (.ref 578) [tab h m S, .int size] μ Q := by
  refine WC_def pg.F61 pg.ok.lim rfl rfl (WSs_cons (WS_Return ?_))
  refine WE_CompH [("width", .int size)] rfl rfl rfl rfl (.inl rfl) ?_
  refine WE.mono (WE_Name (Q := fun v m' => v = tab h m S ∧ m' = μ) rfl rfl ⟨rfl, rfl⟩ (.inl rfl) rfl rfl) (fun v m' hv => ?_)
  obtain ⟨rfl, rfl⟩ := hv
  refine ⟨_, fun i rs μ' => rs = (List.range i).map (fun y => .list (rowF size (dbl (S y) m))) ∧ μ' = m', rfl, len_mr (by assumption) (by decide), ⟨rfl, rfl⟩, fun i p rs μ' hp hi => ?_, fun rs μ' hi => ?_⟩
  · obtain ⟨rfl, rfl⟩ := hi
    rw [List.getElem?_map] at hp
    obtain ⟨j, hj, rfl⟩ := Option.map_eq_some_iff.mp hp
    obtain ⟨hlt, rfl⟩ := List.getElem?_eq_some_iff.mp hj
    rw [List.getElem_range]
    walk_at "go"
    refine WO_call (twice_ok pg (g := S i) hm hs ?_)
    exact ⟨by rw [List.range_succ, List.map_append]; rfl, rfl⟩
  · obtain ⟨rfl, rfl⟩ := hi
    rw [List.length_map, List.length_range]
    exact hQ
theorem down_ok (pg : Pg c) {w m size : Nat} {S : Nat → Nat → Int} (hw : w ≤ 1000) (hm : m ≤ 1000) (hs : size ≤ 2 * m) (hQ : Q (tab size w (fun y x => dbl (fun y => S y x) m y)) μ) : WC c 2 (.ref 583) [tab m w S, .int size] μ Q := by
  refine WC_def pg.F62 pg.ok.lim rfl rfl (WSs_cons ?_)
  refine WS_Assign (WE_ListM (WEs_nil ⟨by decide, fun a ha => ?_⟩)) rfl rfl rfl
  walk_at "go"
  refine WS_ForR (σ := Unit) rfl rfl (.inr ⟨rfl, by with_unfolding_all decide⟩) ?_
  unfold tab
  walk_at "go"
  refine WO_len_list (len_mr (by assumption) (by decide)) ?_
  rw [List.length_map, List.length_range]
  walk_at "go"
  refine ⟨m, fun _ _ => [("rows", tab m w S), ("height", .int size), ("found", .ptr a)], fun i _ => μ.set a (.list ((List.range (2 * i)).map fun y => .list (rowF w (fun x => dbl (fun y => S y x) m y)))), fun _ _ => True, (), rfl, Nat.le_trans (by assumption) (by decide), trivial, .of rfl, .refl _, fun k t hk _ => ?_, fun t ρ' μ' _ hL hM => ?_⟩
  · unfold tab
    (try dsimp only)
    walk_at "go"
    refine WO_len_list (len_mr (by assumption) (by decide)) ?_
    rw [List.length_map, List.length_range]
    walk_at "go"
    refine WO_min2 ?_
    rw [min_next hk]
    walk_at "go"
    refine WO_get_list (Int.natCast_nonneg _) (castL (min_lt hk) (by assumption) (by decide)) (tab_row (min_lt hk)) ?_
    walk_at "go"
    refine WS_app rfl rfl rfl rfl rfl (Mu.set_self ..) ?_
    walk_at "go"
    refine WO_get_list (Int.natCast_nonneg _) (castL hk (by assumption) (by decide)) (tab_row hk) ?_
    walk_at "go"
    refine WO_list (by rw [rowF_length]; exact Nat.le_trans (by assumption) (by decide)) ?_
    refine ⟨_, Mu.set_self .., by simp; lia, ?_⟩
    have e1 : ((List.range (2 * k)).map fun y => PV.list (rowF w (fun x => dbl (fun y => S y x) m y))) ++ [.list (rowF w (S k))] = (List.range (2 * k + 1)).map fun y => PV.list (rowF w (fun x => dbl (fun y => S y x) m y)) := by
      rw [List.range_succ, List.map_append, List.map_singleton]
      congr 3
      exact rowF_congr fun x _ => (dbl_even (fun y => S y x) m k).symm
    rw [Mu.set_set, e1]
    refine WSs_cons ?_
    refine WS_app rfl rfl rfl rfl rfl (Mu.set_self ..) ?_
    refine WE_CompR [("rows", tab m w S), ("k", .int k), ("behind", .list (rowF w (S (min (k + 1) (m - 1)))))] (fun x => .int (dbl (fun y => S y x) m (2 * k + 1))) rfl rfl rfl rfl (.inl rfl) ?_
    walk_at "go"
    refine WO_len_list (by rw [rowF_length]; exact Nat.le_trans (by assumption) (by decide)) ?_
    rw [rowF_length]
    walk_at "go"
    refine ⟨w, rfl, Nat.le_trans (by assumption) (by decide), fun x hx => ?_, ?_⟩
    · unfold tab
      walk_at "go"
      refine WO_get_list (Int.natCast_nonneg _) (castL hk (by assumption) (by decide)) (tab_row hk) ?_
      walk_at "go"
      refine WO_get_list (v := .int (S k x)) (Int.natCast_nonneg _) (castL hx (by assumption) (by decide)) (rowF_get hx) ?_
      walk_at "go"
      refine WO_get_list (v := .int (S (min (k + 1) (m - 1)) x)) (Int.natCast_nonneg _) (castL hx (by assumption) (by decide)) (rowF_get hx) ?_
      walk_at "go"
      refine WO.le (j := 1) (WO_call (between_ok pg.ok pg.F59 ?_)) (by decide)
      exact ⟨by rw [dbl_odd], rfl⟩
    · refine ⟨_, Mu.set_self .., by simp; lia, ?_⟩
      walk_at "go"
      refine ⟨(), trivial, .of rfl, ?_⟩
      rw [Mu.set_set]
      refine Mu.le_eq ?_
      congr 2
      show (List.range (2 * k + 1)).map _ ++ [_] = (List.range (2 * k + 1 + 1)).map _
      rw [List.range_succ (n := 2 * k + 1), List.map_append]
      rfl
  · (try dsimp only at hL hM)
    refine WSs_weak hL hM ?_
    refine WSs_frz (a := a) (l := (List.range (2 * m)).map fun y => .list (rowF w (fun x => dbl (fun y => S y x) m y))) [("height", .int size), ("found", tab (2 * m) w (fun y x => dbl (fun y => S y x) m y))] (Mu.set_self ..) (by repeat first | exact trivial | refine ⟨⟨_, rfl, by first | exact Frz.refl _ _ _ | exact Frz.ptr _ _⟩, ?_⟩) ?_
    rw [Mu.del_set ha]
    refine WSs_cons (WS_Return (WE_Upto ?_))
    walk_at "go"
    refine ⟨_, _, rfl, rfl, by lia, by simp; lia, ?_⟩
    rw [Int.toNat_natCast, ← List.map_take, List.take_range, Nat.min_eq_left hs]
    exact hQ
noncomputable def expS (across down : Bool) (w h : Nat) (S : Nat → Nat → Int) : Nat → Nat → Int :=
  let T := if across then (fun y => dbl (S y) w) else S
  if down then fun y x => dbl (fun y => T y x) h y else T
theorem expanded_ok (pg : Pg c) {across down : Bool} {w h W H : Nat} {S : Nat → Nat → Int} (hw : w ≤ 1000) (hh : h ≤ 1000) (hW2 : W ≤ 1000) (hW : if across then W ≤ 2 * w else W = w) (hH : if down then H ≤ 2 * h else H = h) (hQ : Q (planeP W H (tab H W (expS across down w h S))) μ) :
    WC c 4 (.ref 588) [planeP w h (tab h w S), .bool across, .bool down, .int W, .int H] μ Q := by
  refine WC_def pg.F63 pg.ok.lim rfl rfl (WSs_cons ?_)
  refine WS_CompH [] rfl rfl rfl rfl rfl (.inl rfl) rfl (compL (fun p => p) ?_)
  walk_at "go"
  refine ⟨_, rfl, len_mr (by assumption) (by decide), fun p hp => ?_, ?_⟩
  · obtain ⟨y, _, rfl⟩ := List.mem_map.mp hp
    walk_at "go"
    refine WO_list (len_mr (by assumption) (by decide)) ⟨rfl, rfl⟩
  (try dsimp only)
  rw [List.map_id']
  have fin : ∀ {ρ : Rho} {T : Nat → Nat → Int}, ρ.lookup ("rows" : Str) = some (tab h W T : PV) → ρ.lookup ("down" : Str) = some (.bool down) → ρ.lookup ("width" : Str) = some (.int W) → ρ.lookup ("height" : Str) = some (.int H) →
      (T = if across then (fun y => dbl (S y) w) else S) → WSs c 3 (scD (stAt 63)) ρ μ ((fBody (stAt 63)).drop 2) (fun f _ μ' => match f with | .ret v => Q v μ' | .next => Q .none μ' | _ => False) := by
    intro ρ T h1 h2 h3 h4 hT
    have last : ∀ {ρ : Rho} {U : Nat → Nat → Int}, ρ.lookup ("rows" : Str) = some (tab H W U) → ρ.lookup ("width" : Str) = some (.int W) → ρ.lookup ("height" : Str) = some (.int H) → U = expS across down w h S →
        WSs c 3 (scD (stAt 63)) ρ μ ((fBody (stAt 63)).drop 3) (fun f _ μ' => match f with | .ret v => Q v μ' | .next => Q .none μ' | _ => False) := by
      intro ρ U h1 h3 h4 hU
      refine WSs_cons (WS_Return ?_)
      refine WE_CallN pg.ok rfl (.inl pg.h4) rfl (callee_cls pg.ok pg.k4) rfl ?_
      refine WEs_cons rfl (WE_Name rfl h3 ?_ (.inl rfl) rfl rfl)
      refine WEs_cons rfl (WE_Name rfl h4 ?_ (.inl rfl) rfl rfl)
      refine WEs_cons rfl (WE_Name rfl h1 ?_ (.inl rfl) rfl rfl)
      refine WEs_nil (WO.le (j := 2) (WO_call (plane_ok pg ?_)) (by decide))
      subst hU
      exact hQ
    refine WSs_cons (WS_If (WT_plain rfl (WE_Name rfl h2 ?_ (.inl rfl) rfl rfl)))
    refine ⟨down, rfl, fun e => ?_, fun e => ?_⟩
    · subst e
      refine WSs_cons (WS_Assign (WE_CallN pg.ok rfl pg.g62 rfl (callee_fn pg.F62) rfl ?_) rfl rfl rfl)
      refine WEs_cons rfl (WE_Name rfl h1 ?_ (.inl rfl) rfl rfl)
      refine WEs_cons rfl (WE_Name rfl h4 ?_ (.inl rfl) rfl rfl)
      refine WEs_nil (WO.le (j := 2) (WO_call (down_ok pg (Nat.le_trans (by assumption) (by decide)) hh (by simpa using hH) ?_)) (by decide))
      refine WA_Name rfl (.inl rfl) (WSs_nil ?_)
      exact last rfl h3 h4 (by unfold expS; rw [hT]; rfl)
    · subst e
      refine WSs_nil ?_
      have : H = h := by simpa using hH
      subst this
      exact last h1 h3 h4 (by unfold expS; rw [hT]; rfl)
  refine WSs_cons (WS_If (WT_plain rfl (WE_Name rfl rfl ?_ (.inl rfl) rfl rfl)))
  refine ⟨across, rfl, fun e => ?_, fun e => ?_⟩
  · subst e
    refine WSs_cons (WS_Assign (WE_CallN pg.ok rfl pg.g61 rfl (callee_fn pg.F61) rfl ?_) rfl rfl rfl)
    walk_at "go"
    refine WO_call (across_ok pg (S := S) hh hw (by simpa using hW) ?_)
    refine WA_Name rfl (.inl rfl) (WSs_nil ?_)
    exact fin rfl rfl rfl rfl rfl
  · subst e
    refine WSs_nil ?_
    have : W = w := by simpa using hW
    subst this
    exact fin rfl rfl rfl rfl rfl
theorem expanded_planes_ok (pg : Pg c) {across down : Bool} {n bits : Int} {w h W H many : Nat} {S : Nat → Nat → Nat → Int} (hw : w ≤ 1000) (hh : h ≤ 1000) (hW2 : W ≤ 1000) (hH2 : H ≤ 1000) (hm : many ≤ 100) (hW : if across then W ≤ 2 * w else W = w) (hH : if down then H ≤ 2 * h else H = h)
    (hQ : Q (.list ((List.range many).map fun p => planeP W H (tab H W (expS across down w h (S p))))) μ) :
    WC c 5 (.ref 614) [.list ((List.range many).map fun p => planeP w h (tab h w (S p))), .bool across, .bool down, frameP n bits W H many] μ Q := by
  refine WC_def pg.F68 pg.ok.lim rfl rfl (WSs_cons ?_)
  refine WS_Assign (WE_ListM (WEs_nil ⟨by decide, fun a ha => ?_⟩)) rfl rfl rfl
  walk_at "go"
  refine WS_ForR (σ := Unit) rfl rfl (.inl rfl) ?_
  walk_at "go"
  refine WO_len_list (len_mr (by assumption) (by decide)) ?_
  rw [List.length_map, List.length_range]
  walk_at "go"
  refine ⟨many, fun _ _ => [("planes", .list ((List.range many).map fun p => planeP w h (tab h w (S p)))), ("across", .bool across), ("down", .bool down), ("frame", frameP n bits W H many), ("found", .ptr a)],
    fun i _ => μ.set a (.list ((List.range i).map fun p => planeP W H (tab H W (expS across down w h (S p))))), fun _ _ => True, (), rfl, Nat.le_trans (by assumption) (by decide), trivial, .of rfl, .refl _, fun p t hp _ => ?_, fun t ρ' μ' _ hL hM => ?_⟩
  · (try dsimp only)
    walk_at "go"
    refine WO.le (j := 2) (WO_call (plane_size_ok pg hp (by lia) (by lia) (by lia) ?_)) (by decide)
    refine WA_Tuple rfl rfl ?_
    walk_at "ass"
    refine WSs_cons ?_
    refine WS_app rfl rfl rfl rfl rfl (Mu.set_self ..) ?_
    walk_at "go"
    refine WO_get_list (Int.natCast_nonneg _) (castL hp (by assumption) (by decide)) (get_range hp) ?_
    walk_at "go"
    refine WO_call (expanded_ok pg hw hh hW2 hW hH ?_)
    refine ⟨_, Mu.set_self .., by simp; lia, ?_⟩
    walk_at "go"
    refine ⟨(), trivial, .of rfl, ?_⟩
    (try dsimp only); rw [Mu.set_set, List.range_succ, List.map_append]
    exact .refl _
  · (try dsimp only at hL hM)
    refine WSs_weak hL hM ?_
    refine WSs_frz (a := a) (l := (List.range many).map fun p => planeP W H (tab H W (expS across down w h (S p)))) [("found", .list ((List.range many).map fun p => planeP W H (tab H W (expS across down w h (S p)))))] (Mu.set_self ..) (by repeat first | exact trivial | refine ⟨⟨_, rfl, by first | exact Frz.refl _ _ _ | exact Frz.ptr _ _⟩, ?_⟩) ?_
    rw [Mu.del_set ha]
    walk_at "go"
    exact hQ
end
section
variable {c : Cx} {k : Nat} {μ : Mu} {Q : PV → Mu → Prop}
theorem ints_get {vs : List Value} {l : List Int} (h : IntsAre vs l) {k : Nat} {x : Int} (hk : l[k]? = some x) : ∃ t, vs[k]? = some (.int x t) := by
  induction h generalizing k with
  | nil => simp at hk
  | cons i t _ ih =>
    cases k with
    | zero => simp at hk; subst hk; exact ⟨t, rfl⟩
    | succ k => exact ih (by simpa using hk)
theorem WO_len_raw {k : Nat} {sa : Addr} {vs : List Value} {l : List Int} (hs : c.h₀.IsList sa vs.toArray) (hv : IntsAre vs l) (hl : l.length ≤ 1000) (h : Q (.int l.length) μ) : WO c k (cl (.builtin "len")) [.raw (.ref sa)] μ Q := fun A env sc ρ X fz s E vs' rm ra S => by
  obtain ⟨v, rfl, r1⟩ := ra.inv1; (first | obtain rfl := r1.inv | obtain ⟨_, rfl⟩ := r1.inv | obtain ⟨_, _, _, rfl, _, _⟩ := r1.inv | obtain ⟨_, _, rfl, _⟩ := r1.inv | obtain ⟨_, rfl, _⟩ := r1.inv | obtain ⟨_, _, _, rfl, _, _, _, _, _⟩ := r1.inv | obtain ⟨_, _, _, _, rfl, _, _, _, _⟩ := r1.inv | obtain ⟨_, _, _, _, rfl, _, _, _, _, _⟩ := r1.inv | cases r1)
  have e := hv.length
  obtain ⟨o, ho, r⟩ := hs
  exact len_list ⟨o, S.base _ _ ho, r⟩ (by rw [List.size_toArray, e]; lia) ((S.toks _).pe (by rw [List.size_toArray, e]; exact .int _ _) h)
theorem WE_SubRaw {k : Nat} {sc : SC} {ρ : Rho} {value slice : Expr} {pos : Pos} {sa : Addr} {vs : List Value} {l : List Int} (hs : c.h₀.IsList sa vs.toArray) (hv : IntsAre vs l)
    (h : WE c k sc ρ μ value (fun o μ₁ => WE c k sc ρ μ₁ slice (fun i μ₂ => o = .raw (.ref sa) ∧ ∃ (j : Nat) (x : Int), i = .int j ∧ j < 1000 ∧ l[j]? = some x ∧ Q (.int x) μ₂))) : WE c k sc ρ μ (.Subscript value slice pos) Q := fun A env X fz s E rm S => by
  refine Subscript_ (h.use S rm fun ov po μ' fz' s' h₁ ro l1 S' => h₁.use S' rm fun iv pi μ₂ fz₂ s₂ h₂ ri l2 S₂ => ?_)
  obtain ⟨rfl, j, x, rfl, hj, hx, hq⟩ := h₂
  (first | obtain rfl := ro.inv | obtain ⟨_, rfl⟩ := ro.inv | obtain ⟨_, _, _, rfl, _, _⟩ := ro.inv | obtain ⟨_, _, rfl, _⟩ := ro.inv | obtain ⟨_, rfl, _⟩ := ro.inv | obtain ⟨_, _, _, rfl, _, _, _, _, _⟩ := ro.inv | obtain ⟨_, _, _, _, rfl, _, _, _, _⟩ := ro.inv | obtain ⟨_, _, _, _, rfl, _, _, _, _, _⟩ := ro.inv | cases ro)
  (first | obtain rfl := ri.inv | obtain ⟨_, rfl⟩ := ri.inv | obtain ⟨_, _, _, rfl, _, _⟩ := ri.inv | obtain ⟨_, _, rfl, _⟩ := ri.inv | obtain ⟨_, rfl, _⟩ := ri.inv | obtain ⟨_, _, _, rfl, _, _, _, _, _⟩ := ri.inv | obtain ⟨_, _, _, _, rfl, _, _, _, _⟩ := ri.inv | obtain ⟨_, _, _, _, rfl, _, _, _, _, _⟩ := ri.inv | cases ri)
  obtain ⟨o, ho, hc, n, hd⟩ := hs
  obtain ⟨t, ht⟩ := ints_get hv hx
  have I : s₂.heap.IsList sa vs.toArray := ⟨o, S₂.base _ _ ho, hc, n, hd⟩
  refine upE (l1.trans l2) (subTail (T := "list") ⟨o, S₂.base _ _ ho, hc⟩ slot_list_getitem.lookup ?_)
  exact wpAny_getItem_list I (by lia) (by lia) (by simpa using ht) (S₂.pe (.int _ _) hq)
theorem begin_ok (pg : Pg c) {sa : Addr} {vs : List Value} {l : List Int} (hs : c.h₀.IsList sa vs.toArray) (hv : IntsAre vs l) (hl : l.length ≤ 1000) (hQ : ∀ a x y, μ a = none → 0 ≤ x → 0 ≤ y → Q (.ptr a) (μ.set a (.list [.int x, .int y]))) : WC c 1 (.ref 755) [.raw (.ref sa)] μ Q := by
  refine WC_def pg.F77 pg.ok.lim rfl rfl (WSs_cons ?_)
  refine WS_Assign (WE.mono (Q := fun v m => (∃ i : Int, v = .int i) ∧ m = μ) ?_ fun v m hv => ?_) rfl rfl rfl
  · refine WE_IfExp ?_
    walk_at "go"
    refine WO_len_raw hs hv hl ?_
    walk_at "go"
    refine ⟨_, rfl, fun e => ?_, fun e => ?_⟩
    · have hpos : 0 < l.length := by have := of_decide_eq_true e; lia
      obtain ⟨x, r, rfl⟩ : ∃ x r, l = x :: r := by cases l with | nil => simp at hpos | cons x r => exact ⟨x, r, rfl⟩
      refine WE_CallN pg.ok rfl pg.n_int rfl (callee_type _) rfl (WEs_cons rfl (WE_SubRaw hs hv ?_))
      walk_at "go"
      refine ⟨rfl, 0, x, rfl, by decide, rfl, ?_⟩
      refine WEs_nil (WO_int_int ?_)
      exact ⟨⟨_, rfl⟩, rfl⟩
    · walk_at "go"
      exact ⟨⟨_, rfl⟩, rfl⟩
  obtain ⟨⟨i, rfl⟩, rfl⟩ := hv
  refine WA_Name rfl (.inl rfl) ?_
  refine WSs_cons (WS_Assign ?_ rfl rfl rfl)
  refine WE.mono (Q := fun v m' => (∃ w : Int, v = .int w ∧ 0 ≤ w) ∧ m' = m) ?_ fun v m' hv => ?_
  · refine WE_IfExp ?_
    walk_at "go"
    refine ⟨_, rfl, fun e => ?_, fun e => ?_⟩
    · walk_at "go"
      exact ⟨⟨i, rfl, of_decide_eq_true e⟩, rfl⟩
    · walk_at "go"
      exact ⟨⟨-i - 1, rfl, by have := of_decide_eq_false e; lia⟩, rfl⟩
  obtain ⟨⟨w, rfl, hw⟩, rfl⟩ := hv
  refine WA_Name rfl (.inl rfl) ?_
  refine WSs_cons (WS_Assign ?_ rfl rfl rfl)
  walk_at "go"
  refine WO_fmod (by decide) ?_
  walk_at "go"
  refine WO_len_raw hs hv hl ?_
  walk_at "go"
  refine WO_mul (.inl (by decide)) ?_
  refine WO_add ?_
  refine WA_Name rfl (.inl rfl) ?_
  refine WSs_cons (WS_Return (WE_ListM (WEs_cons rfl ?_)))
  refine WE.mono (Q := fun v m => (∃ x : Int, v = .int x ∧ 0 ≤ x) ∧ m = m') ?_ fun v m hv => ?_
  · refine WE_IfExp ?_
    walk_at "go"
    refine WO_pow (by decide) (by decide) (by decide) ?_
    walk_at "go"
    refine ⟨_, rfl, fun e => ?_, fun e => ?_⟩
    · walk_at "go"
      exact ⟨⟨w, rfl, hw⟩, rfl⟩
    · walk_at "go"
      exact ⟨⟨0, rfl, by decide⟩, rfl⟩
  obtain ⟨⟨x, rfl, hx⟩, rfl⟩ := hv
  walk_at "go"
  refine ⟨by simp, fun a ha => hQ a _ _ ha hx ?_⟩
  have := Int.fmod_nonneg_of_pos w (b := 2147483629) (by decide)
  lia
theorem next_ok (pg : Pg c) {a : Addr} {x y m : Int} (hm : 1 ≤ m) (hm2 : m ≤ 100000) (hx : 0 ≤ x) (hy : 0 ≤ y) (hQ : ∀ r x' y', 0 ≤ r → r < m → 0 ≤ x' → 0 ≤ y' → Q (.int r) (μ.set a (.list [.int x', .int y']))) :
    WC c 1 (.ref 762) [.ptr a, .int m] (μ.set a (.list [.int x, .int y])) Q := by
  refine WC_def pg.F78 pg.ok.lim rfl rfl (WSs_cons ?_)
  walk_at "go"
  refine ⟨.ptr (Mu.set_self ..), WO_get_ptr (v := .int x) (Mu.set_self ..) (by decide) (by decide) rfl ?_⟩
  walk_at "go"
  refine ⟨_, rfl, fun e => ?_, fun e => ?_⟩
  · walk_at "go"
    refine ⟨.ptr (Mu.set_self ..), WO_get_ptr (v := .int x) (Mu.set_self ..) (by decide) (by decide) rfl ?_⟩
    walk_at "go"
    refine WO_fdiv (by lia) (by lia) ?_
    walk_at "go"
    refine ⟨.ptr (Mu.set_self ..), WO_get_ptr (v := .int x) (Mu.set_self ..) (by decide) (by decide) rfl ?_⟩
    walk_at "go"
    refine WO_fmod (by lia) ?_
    walk_at "go"
    refine ⟨by simp, ?_⟩
    refine WA_Tuple rfl rfl (WAs_cons rfl ?_)
    walk_at "go"
    refine WO_set_ptr (Mu.set_self ..) (by decide) (by simp) (by simp) ?_
    refine WAs_cons rfl ?_
    walk_at "go"
    refine WAs_nil ?_
    walk_at "go"
    rw [Mu.set_set]
    exact hQ _ _ _ (Int.fmod_nonneg_of_pos _ (by lia)) (Int.fmod_lt_of_pos _ (by lia)) (by rw [Int.fdiv_eq_ediv_of_nonneg _ (by lia)]; exact Int.ediv_nonneg hx (by lia)) hy
  · walk_at "go"
    refine ⟨.ptr (Mu.set_self ..), WO_get_ptr (v := .int y) (Mu.set_self ..) (by decide) (by decide) rfl ?_⟩
    walk_at "go"
    refine WO_mul (.inr (by decide)) ?_
    walk_at "go"
    refine WO_fmod (by decide) ?_
    walk_at "go"
    refine WO_set_ptr (Mu.set_self ..) (by decide) (by simp) (by simp) ?_
    rw [Mu.set_set]
    generalize hz : (y * 48271 + 4099).fmod 2147483647 = z
    have hz0 : 0 ≤ z := hz ▸ Int.fmod_nonneg_of_pos _ (by decide)
    have hz1 : z < 2147483647 := hz ▸ Int.fmod_lt_of_pos _ (by decide)
    walk_at "go"
    refine ⟨.ptr (Mu.set_self ..), WO_get_ptr (v := .int z) (Mu.set_self ..) (by decide) (by decide) rfl ?_⟩
    walk_at "go"
    refine ⟨.ptr (Mu.set_self ..), WO_get_ptr (v := .int z) (Mu.set_self ..) (by decide) (by decide) rfl ?_⟩
    refine WO_mul (.inl (by lia)) ?_
    walk_at "go"
    refine WO_fmod (by decide) ?_
    walk_at "go"
    refine WO_fdiv (by decide) (by decide) ?_
    walk_at "go"
    refine WO_fmod (by lia) ?_
    exact hQ _ _ _ (Int.fmod_nonneg_of_pos _ (by lia)) (Int.fmod_lt_of_pos _ (by lia)) hx hz0
theorem meant_ok (pg : Pg c) {n : Nat} {r q : List Int} (hn : n = 1 ∨ n = 2) (hr : r.length = n * n) (hq : q.length = n * n) (hqb : ∀ x ∈ q, x.natAbs < 2 ^ 64) (hQ : Q (.list (iL (spl n r q))) μ) : WC c 1 (.ref 772) [.list (iL r), .tuple (iL q), .int n] μ Q := by
  have hn4 : n * n ≤ 4 := by rcases hn with rfl | rfl <;> decide
  refine WC_def pg.F80 pg.ok.lim rfl rfl (WSs_cons ?_)
  refine WS_CompH [("row", .list (iL r)), ("divisors", .tuple (iL q))] rfl rfl rfl rfl rfl (.inl rfl) rfl (compR (fun i => .int (r.getD i 0 * q.getD i 0)) ?_)
  walk_at "go"
  refine WO_mul (.inr (Nat.lt_of_le_of_lt (n12 hn) (by decide))) ?_
  walk_at "go"
  have e0 : ((n : Int) * (n : Int)) = ((n * n : Nat) : Int) := by simp
  rw [e0]
  refine ⟨n * n, rfl, Nat.le_trans (by assumption) (by decide), fun i hi => ?_, ?_⟩
  · have e1 : r[i]? = some (r.getD i 0) := by rw [List.getD_eq_getElem?_getD, List.getElem?_eq_getElem (by lia)]; rfl
    have e2 : q[i]? = some (q.getD i 0) := by rw [List.getD_eq_getElem?_getD, List.getElem?_eq_getElem (by lia)]; rfl
    walk_at "go"
    refine WO_get_list (by lia) (by lia) (iL_get (x := r.getD i 0) e1) ?_
    walk_at "go"
    refine WO_get_tuple (by lia) (by lia) (iL_get (x := q.getD i 0) e2) ?_
    refine WO_mul (.inr (hqb _ (List.mem_of_getElem? e2))) ⟨rfl, rfl⟩
  have e3 : (List.range (n * n)).map (fun i => PV.int (r.getD i 0 * q.getD i 0)) = iL (mulL r q) := by unfold iL mulL; rw [List.map_map, hr]; rfl
  rw [e3]
  (try dsimp only)
  walk_at "go"
  refine ⟨_, rfl, fun e => ?_, fun e => ?_⟩
  · have h1 : n = 1 := by have := eq_of_beq e; lia
    subst h1
    walk_at "go"
    exact hQ
  · have h2 : n = 2 := by
      rcases hn with rfl | rfl
      · exact absurd e (by decide)
      · rfl
    subst h2
    have hl : (mulL r q).length = 4 := by rw [mulL_length, hr]
    obtain ⟨a, b, d, e', he⟩ := four hl
    rw [he]
    walk_at "go"
    refine WA_TupleL rfl rfl ?_
    show WAs _ _ _ _ _ _ [.int a, .int b, .int d, .int e'] _
    walk_at "ass"
    refine WSs_cons (WS_Return ?_)
    refine WE_CompL [] (fun p => match p with | .int n => .int ((n + 1).fdiv 2) | p => p) rfl rfl rfl rfl (.inl rfl) ?_
    walk_at "go"
    refine ⟨by simp, iL (sums4 [a, b, d, e']), rfl, by simp [iL, sums4], fun p hp => ?_, ?_⟩
    · obtain ⟨n, _, rfl⟩ := List.mem_map.mp hp
      walk_at "go"
      exact WO_fdiv (by decide) (by decide) ⟨rfl, rfl⟩
    · have e : ∀ l : List Int, (iL l).map (fun p => match p with | .int n => PV.int ((n + 1).fdiv 2) | p => p) = iL (halved l) := fun l => by unfold iL halved; rw [List.map_map, List.map_map]; rfl
      rw [e]
      have : spl ((2 : Nat) : Int) r q = halved (sums4 [a, b, d, e']) := by unfold spl idct; rw [he]; rfl
      rw [← this]; exact hQ
theorem min_pred (a b : Nat) {m : Nat} (h : 0 < m) : (if (a : Int) + (b : Int) < (m : Int) - 1 then (a : Int) + (b : Int) else (m : Int) - 1) = ((min (a + b) (m - 1) : Nat) : Int) := by split <;> lia
theorem longer_ok (pg : Pg c) {m size : Nat} {g : Nat → Int} (hm0 : 0 < m) (hm : m ≤ 1000) (hs : size ≤ 2 * m) (hQ : Q (.list (rowF size (dbl g m))) μ) : WC c 1 (.ref 786) [.list (rowF m g), .int size] μ Q := by
  have hsz : size ≤ 1000000 := Nat.le_trans hs (Nat.le_trans (Nat.mul_le_mul_left 2 hm) (by decide))
  refine WC_def pg.F82 pg.ok.lim rfl rfl (WSs_cons ?_)
  refine WS_Assign (WE_ListM (WEs_nil ⟨by decide, fun a ha => ?_⟩)) rfl rfl rfl
  walk_at "go"
  refine WS_ForR (σ := Unit) rfl rfl (.inl rfl) ?_
  walk_at "go"
  refine ⟨size, fun _ _ => [("line", .list (rowF m g)), ("found", .ptr a)], fun i _ => μ.set a (.list (rowF i (dbl g m))), fun _ _ => True, (), rfl, hsz, trivial, .of rfl, .refl _, fun x t hx _ => ?_, fun t ρ' μ' _ hL hM => ?_⟩
  · (try dsimp only)
    have hq : x / 2 < m := Nat.div_lt_of_lt_mul (Nat.lt_of_lt_of_le hx hs)
    have hmn : min (x / 2 + x % 2) (m - 1) < m := Nat.lt_of_le_of_lt (Nat.min_le_right _ _) (Nat.sub_lt hm0 Nat.one_pos)
    have hmm : m ≤ 1000000 := Nat.le_trans hm (by decide)
    have ex : (x : Int).fdiv 2 = ((x / 2 : Nat) : Int) := by rw [Int.fdiv_eq_ediv_of_nonneg _ (by decide)]; rfl
    have em : (x : Int).fmod 2 = ((x % 2 : Nat) : Int) := by rw [Int.fmod_eq_emod_of_nonneg _ (by decide)]; rfl
    walk_at "go"
    refine WO_len_list (by rw [rowF_length]; exact hmm) ?_
    rw [rowF_length]
    walk_at "go"
    refine WO_fdiv (by decide) (by decide) ?_
    walk_at "go"
    refine WO_fmod (by decide) ?_
    rw [ex, em]
    walk_at "go"
    refine WO_min2 ?_
    rw [min_pred _ _ hm0]
    walk_at "go"
    refine WO_get_list (v := .int (g (min (x / 2 + x % 2) (m - 1)))) (Int.natCast_nonneg _) (idx_ok hmn hmm) (rowF_get hmn) ?_
    walk_at "go"
    refine WS_app rfl rfl rfl rfl rfl (Mu.set_self ..) ?_
    walk_at "go"
    refine WO_fdiv (by decide) (by decide) ?_
    rw [ex]
    walk_at "go"
    refine WO_get_list (v := .int (g (x / 2))) (Int.natCast_nonneg _) (idx_ok hq hmm) (rowF_get hq) ?_
    walk_at "go"
    refine WO_fdiv (by decide) (by decide) ?_
    refine ⟨_, Mu.set_self .., by rw [rowF_length]; exact Nat.le_trans (Nat.le_of_lt hx) hsz, ?_⟩
    have key : dbl g m x = (g (x / 2) + g (min (x / 2 + x % 2) (m - 1))).fdiv 2 := by
      unfold dbl
      split
      · rename_i h0
        have : min (x / 2 + x % 2) (m - 1) = x / 2 := by rw [h0, Nat.add_zero]; exact Nat.min_eq_left (Nat.le_sub_one_of_lt hq)
        rw [this, Int.fdiv_eq_ediv_of_nonneg _ (by decide), ← Int.two_mul]; exact (Int.mul_ediv_cancel_left _ (by decide)).symm
      · rename_i h0
        have : x / 2 + x % 2 = x / 2 + 1 := by rw [(Nat.mod_two_eq_zero_or_one x).resolve_left h0]
        rw [this]
    rw [Mu.set_set, rowF_snoc key]
    walk_at "go"
    refine ⟨(), trivial, .of rfl, ?_⟩
    exact .refl _
  · (try dsimp only at hL hM)
    refine WSs_weak hL hM ?_
    refine WSs_frz (a := a) (l := rowF size (dbl g m)) [("found", .list (rowF size (dbl g m)))] (Mu.set_self ..) (by repeat first | exact trivial | refine ⟨⟨_, rfl, by first | exact Frz.refl _ _ _ | exact Frz.ptr _ _⟩, ?_⟩) ?_
    rw [Mu.del_set ha]
    walk_at "go"
    exact hQ
end
section
variable {c : Cx} {k : Nat} {μ : Mu} {Q : PV → Mu → Prop}
theorem fdiv_nat (x n : Nat) : (x : Int).fdiv (n : Int) = ((x / n : Nat) : Int) := by rw [Int.fdiv_eq_ediv_of_nonneg _ (by lia)]; rfl
theorem fmod_nat (x n : Nat) : (x : Int).fmod (n : Int) = ((x % n : Nat) : Int) := by rw [Int.fmod_eq_emod_of_nonneg _ (by lia)]; rfl
theorem cell_lt {a b n : Nat} (ha : a < n) (hb : b < n) : a * n + b < n * n := Nat.lt_of_lt_of_le (Nat.add_lt_add_left hb _) (by rw [← Nat.succ_mul]; exact Nat.mul_le_mul_right n ha)
theorem drawn_ok (pg : Pg c) {n W H p : Nat} {G : Nat → Nat → Nat → List Int} {q : List Int} {ds : List (List Int × PV)} (hn : n = 1 ∨ n = 2) (hW : W ≤ 50) (hH : H ≤ 50)
    (hG : ∀ y x, y < upN H n → x < upN W n → (G p y x).length = n * n ∧ ds.lookup [(p : Int), (x : Int), (y : Int)] = some (.list (iL (G p y x)))) (hq : q.length = n * n) (hqb : ∀ x ∈ q, x.natAbs < 2 ^ 64) (hQ : Q (tab H W (fin2 n (G p) q)) μ) :
    WC c 2 (.ref 779) [.dict ds, .int p, .int W, .int H, .tuple (iL q), .int n] μ Q := by
  have hn4 : n * n ≤ 4 := by rcases hn with rfl | rfl <;> decide
  have n0 : 0 < n := by rcases hn with rfl | rfl <;> decide
  have nz : (n : Int) ≠ 0 := by rcases hn with rfl | rfl <;> decide
  have na : (n : Int).natAbs < 2 ^ 40 := by rcases hn with rfl | rfl <;> decide
  refine WC_def pg.F81 pg.ok.lim rfl rfl (WSs_cons ?_)
  refine WS_Assign (WE_ListM (WEs_nil ⟨by decide, fun a ha => ?_⟩)) rfl rfl rfl
  walk_at "go"
  refine WS_ForR (σ := Unit) rfl rfl (.inl rfl) ?_
  walk_at "go"
  refine ⟨H, fun _ _ => [("rows", .dict ds), ("place", .int p), ("width", .int W), ("divisors", .tuple (iL q)), ("side", .int n), ("found", .ptr a)], fun i _ => μ.set a (.list ((List.range i).map fun y => .list (rowF W (fin2 n (G p) q y)))), fun _ _ => True, (), rfl, Nat.le_trans (by assumption) (by decide), trivial, .of rfl, .refl _, fun y t hy _ => ?_, fun t ρ' μ' _ hL hM => ?_⟩
  · (try dsimp only)
    refine WSs_cons (WS_Assign (WE_ListM (WEs_nil ⟨by decide, fun b hb => ?_⟩)) rfl rfl rfl)
    have hba : b ≠ a := by rintro rfl; rw [Mu.set_self] at hb; cases hb
    walk_at "go"
    refine WS_ForR (σ := Unit) rfl rfl (.inl rfl) ?_
    walk_at "go"
    refine ⟨W, fun _ _ => [("line", .ptr b), ("y", .int y), ("rows", .dict ds), ("place", .int p), ("width", .int W), ("divisors", .tuple (iL q)), ("side", .int n), ("found", .ptr a)], fun j _ => (μ.set a (.list ((List.range y).map fun y => .list (rowF W (fin2 n (G p) q y))))).set b (.list (rowF j (fin2 n (G p) q y))), fun _ _ => True, (), rfl, Nat.le_trans (by assumption) (by decide), trivial, .of rfl, .refl _, fun x t hx _ => ?_, fun t ρ' μ' _ hL hM => ?_⟩
    · (try dsimp only)
      obtain ⟨hg1, hg2⟩ := hG (y / n) (x / n) (upN_of hn hy) (upN_of hn hx)
      walk_at "go"
      refine WO_fdiv nz na ?_
      walk_at "go"
      refine WO_fdiv nz na ?_
      rw [fdiv_nat, fdiv_nat]
      walk_at "go"
      refine ⟨by simp, ?_⟩
      walk_at "go"
      refine WO_get_dict (i := [(p : Int), ((x / n : Nat) : Int), ((y / n : Nat) : Int)]) hg2 ?_
      walk_at "go"
      refine WO_call (meant_ok pg hn hg1 hq hqb ?_)
      walk_at "go"
      refine WS_app rfl rfl rfl rfl rfl (Mu.set_self ..) ?_
      walk_at "go"
      refine WO_fmod nz ?_
      walk_at "go"
      rw [fmod_nat]
      have hyn : y % n < n := Nat.mod_lt _ n0
      have hxn : x % n < n := Nat.mod_lt _ n0
      refine WO_mul (.inr (Nat.lt_trans na (by decide))) ?_
      walk_at "go"
      refine WO_fmod nz ?_
      rw [fmod_nat]
      walk_at "go"
      have hsl : (spl n (G p (y / n) (x / n)) q).length = n * n := by
        have hlen : (G p (y / n) (x / n)).length = ((n : Int) * (n : Int)).toNat := by
          rw [hg1]
          have : ((n : Int) * (n : Int)) = ((n * n : Nat) : Int) := by simp
          rw [this, Int.toNat_natCast]
        rw [spl_length (by lia) hlen, ← hlen, hg1]
      have hix : y % n * n + x % n < n * n := cell_lt hyn hxn
      have ei : (((y % n : Nat) : Int) * (n : Int) + ((x % n : Nat) : Int)) = ((y % n * n + x % n : Nat) : Int) := by simp
      rw [ei]
      have eS : (spl n (G p (y / n) (x / n)) q)[((y % n * n + x % n : Nat) : Int).toNat]? = some (fin2 n (G p) q y x) := by
        unfold fin2
        rw [Int.toNat_natCast, List.getD_eq_getElem?_getD, List.getElem?_eq_getElem (hsl ▸ hix)]; rfl
      refine WO_get_list (v := .int (fin2 n (G p) q y x)) (Int.natCast_nonneg _) (castL hix hn4 (by decide)) (iL_get eS) ?_
      refine ⟨_, Mu.set_self .., by rw [rowF_length]; exact Nat.le_trans (Nat.le_of_lt hx) (Nat.le_trans hW (by decide)), ?_⟩
      rw [Mu.set_set, rowF_snoc rfl]
      walk_at "go"
      refine ⟨(), trivial, .of rfl, ?_⟩
      exact .refl _
    · (try dsimp only at hL hM)
      refine WSs_weak hL hM ?_
      refine WSs_frz (a := b) (l := rowF W (fin2 n (G p) q y)) [("line", .list (rowF W (fin2 n (G p) q y))), ("y", .int y), ("rows", .dict ds), ("place", .int p), ("width", .int W), ("divisors", .tuple (iL q)), ("side", .int n), ("found", .ptr a)] (Mu.set_self ..) (by repeat first | exact trivial | refine ⟨⟨_, rfl, by first | exact Frz.refl _ _ _ | exact Frz.ptr _ _⟩, ?_⟩) ?_
      rw [Mu.del_set hb]
      refine WSs_cons ?_
      refine WS_app rfl rfl rfl rfl rfl (Mu.set_self ..) ?_
      walk_at "go"
      refine ⟨_, Mu.set_self .., by simp; lia, ?_⟩
      walk_at "go"
      refine ⟨(), trivial, .of rfl, ?_⟩
      (try dsimp only); rw [Mu.set_set, List.range_succ, List.map_append]
      exact .refl _
  · (try dsimp only at hL hM)
    refine WSs_weak hL hM ?_
    refine WSs_frz (a := a) (l := (List.range H).map fun y => .list (rowF W (fin2 n (G p) q y))) [("found", tab H W (fin2 n (G p) q))] (Mu.set_self ..) (by repeat first | exact trivial | refine ⟨⟨_, rfl, by first | exact Frz.refl _ _ _ | exact Frz.ptr _ _⟩, ?_⟩) ?_
    rw [Mu.del_set ha]
    walk_at "go"
    exact hQ
theorem reference_ok (pg : Pg c) {across down : Bool} {w h W H : Nat} {S : Nat → Nat → Int} (hw0 : 0 < w) (hh0 : 0 < h) (hw : w ≤ 1000) (hh : h ≤ 1000) (hW2 : W ≤ 1000) (hH2 : H ≤ 1000) (hW : if across then W ≤ 2 * w else W = w) (hH : if down then H ≤ 2 * h else H = h) (hQ : Q (tab H W (expS across down w h S)) μ) :
    WC c 2 (.ref 791) [tab h w S, .bool across, .bool down, .int W, .int H] μ Q := by
  refine WC_def pg.F83 pg.ok.lim rfl rfl (WSs_cons ?_)
  refine WS_Assign (WE.mono (Q := fun v m => (∃ T, v = tab h W T ∧ T = if across then (fun y => dbl (S y) w) else S) ∧ m = μ) ?_ fun v m hv => ?_) rfl rfl rfl
  · refine WE_IfExp (WT_plain rfl (WE_Name rfl rfl ?_ (.inl rfl) rfl rfl))
    refine ⟨across, rfl, fun e => ?_, fun e => ?_⟩
    · subst e
      refine WE_CompH [("width", .int W)] rfl rfl rfl rfl (.inl rfl) ?_
      refine WE.mono (WE_Name (Q := fun v m' => v = tab h w S ∧ m' = μ) rfl rfl ⟨rfl, rfl⟩ (.inl rfl) rfl rfl) (fun v m' hv => ?_)
      obtain ⟨rfl, rfl⟩ := hv
      refine ⟨_, fun i rs μ' => rs = (List.range i).map (fun y => .list (rowF W (dbl (S y) w))) ∧ μ' = m', rfl, len_mr (by assumption) (by decide), ⟨rfl, rfl⟩, fun i p rs μ' hp hi => ?_, fun rs μ' hi => ?_⟩
      · obtain ⟨rfl, rfl⟩ := hi
        rw [List.getElem?_map] at hp
        obtain ⟨j, hj, rfl⟩ := Option.map_eq_some_iff.mp hp
        obtain ⟨hlt, rfl⟩ := List.getElem?_eq_some_iff.mp hj
        rw [List.getElem_range]
        walk_at "go"
        refine WO_call (longer_ok pg (g := S i) hw0 hw (by simpa using hW) ?_)
        exact ⟨by rw [List.range_succ, List.map_append]; rfl, rfl⟩
      · obtain ⟨rfl, rfl⟩ := hi
        rw [List.length_map, List.length_range]
        exact ⟨⟨fun y => dbl (S y) w, rfl, rfl⟩, rfl⟩
    · subst e
      have : W = w := by simpa using hW
      subst this
      walk_at "go"
      exact ⟨⟨S, rfl, rfl⟩, rfl⟩
  obtain ⟨⟨T, rfl, hT⟩, rfl⟩ := hv
  refine WA_Name rfl (by first | exact .inl rfl | exact .inr ⟨rfl, by with_unfolding_all decide⟩) ?_
  refine WSs_cons (WS_If (WT_Not (WT_plain rfl (WE_Name rfl rfl ?_ (.inl rfl) rfl rfl))))
  refine ⟨down, rfl, fun e => ?_, fun e => ?_⟩
  · have e' : down = false := by simpa using e
    subst e'
    have : H = h := by simpa using hH
    subst this
    walk_at "go"
    have eT : expS across false w H S = T := by unfold expS; rw [hT]; rfl
    rw [← eT]; exact hQ
  · have e' : down = true := by simpa using e
    subst e'
    have hH' : H ≤ 2 * h := by simpa using hH
    have eT : expS across true w h S = fun y x => dbl (fun y => T y x) h y := by unfold expS; rw [hT]; rfl
    refine WSs_nil (WSs_cons ?_)
    refine WS_Assign ?_ rfl rfl rfl
    refine WE_CompR [("wide", tab h W T), ("height", .int H)] (fun x => .list (rowF H (dbl (fun y => T y x) h))) rfl rfl rfl rfl (by first | exact .inl rfl | exact .inr ⟨rfl, by with_unfolding_all decide⟩) ?_
    walk_at "go"
    refine ⟨W, rfl, Nat.le_trans (by assumption) (by decide), fun x hx => ?_, ?_⟩
    · walk_at "go"
      refine WE_CompL [("x", .int x)] (fun p => match p with | .list l => l.getD x .none | p => p) rfl rfl rfl rfl (.inl rfl) ?_
      walk_at "go"
      refine ⟨_, rfl, len_mr (by assumption) (by decide), fun p hp => ?_, ?_⟩
      · obtain ⟨y, _, rfl⟩ := List.mem_map.mp hp
        walk_at "go"
        refine WO_get_list (v := .int (T y x)) (Int.natCast_nonneg _) (castL hx (by assumption) (by decide)) (rowF_get hx) ?_
        have := rowF_get (g := T y) hx
        exact ⟨by show PV.int (T y x) = (rowF W (T y)).getD x .none; rw [List.getD_eq_getElem?_getD, this]; rfl, rfl⟩
      · have e : ((List.range h).map fun y => PV.list ((List.range W).map fun x => .int (T y x))).map (fun p => match p with | .list l => l.getD x .none | p => p) = rowF h (fun y => T y x) := by
          rw [List.map_map]
          unfold rowF
          apply List.map_congr_left
          intro y _
          have := rowF_get (g := T y) hx
          show (rowF W (T y)).getD x .none = _
          rw [List.getD_eq_getElem?_getD, this]; rfl
        rw [e]
        walk_at "go"
        refine WO_call (longer_ok pg (g := fun y => T y x) hh0 hh hH' ?_)
        exact ⟨rfl, rfl⟩
    · refine WA_Name rfl (by first | exact .inl rfl | exact .inr ⟨rfl, by with_unfolding_all decide⟩) ?_
      refine WSs_cons (WS_Return ?_)
      refine WE_CompR [("turned_rows", .list ((List.range W).map fun x => .list (rowF H (dbl (fun y => T y x) h))))] (fun y => .list (rowF W (fun x => dbl (fun y => T y x) h y))) rfl rfl rfl rfl (by first | exact .inl rfl | exact .inr ⟨rfl, by with_unfolding_all decide⟩) ?_
      walk_at "go"
      refine ⟨H, rfl, by lia, fun y hy => ?_, ?_⟩
      · refine WE_CompL [("y", .int y)] (fun p => match p with | .list l => l.getD y .none | p => p) rfl rfl rfl rfl (.inl rfl) ?_
        walk_at "go"
        refine ⟨_, rfl, len_mr (by assumption) (by decide), fun p hp => ?_, ?_⟩
        · obtain ⟨x, _, rfl⟩ := List.mem_map.mp hp
          walk_at "go"
          refine WO_get_list (v := .int (dbl (fun y => T y x) h y)) (by lia) (by lia) (rowF_get hy) ?_
          have := rowF_get (g := dbl (fun y => T y x) h) hy
          exact ⟨by show _ = (rowF H (dbl (fun y => T y x) h)).getD y .none; rw [List.getD_eq_getElem?_getD, this]; rfl, rfl⟩
        · refine ⟨?_, rfl⟩
          rw [List.map_map]
          show PV.list _ = PV.list _
          congr 1
          unfold rowF
          apply List.map_congr_left
          intro x _
          have := rowF_get (g := dbl (fun y => T y x) h) hy
          show (rowF H (dbl (fun y => T y x) h)).getD y .none = _
          rw [List.getD_eq_getElem?_getD, this]; rfl
      · rw [eT] at hQ
        exact hQ
end
section
variable {c : Cx} {k : Nat} {μ : Mu} {Q : PV → Mu → Prop}
theorem lookup_none' {n : Nat} {key : Nat → List Int} {v : Nat → PV} (inj : ∀ i j, key i = key j → i = j) {e : Nat} (he : n ≤ e) : ((List.range n).map fun e => (key e, v e)).lookup (key e) = none := by
  induction n with
  | zero => rfl
  | succ n ih =>
    rw [List.range_succ, List.map_append, List.lookup_append, ih (by lia)]
    have : (key e == key n) = false := by
      cases q : key e == key n with
      | false => rfl
      | true => have := inj _ _ (eq_of_beq q); lia
    simp [List.lookup_cons, this]
theorem lookup_some' {n : Nat} {key : Nat → List Int} {v : Nat → PV} (inj : ∀ i j, key i = key j → i = j) {e : Nat} (he : e < n) : ((List.range n).map fun e => (key e, v e)).lookup (key e) = some (v e) := by
  induction n with
  | zero => lia
  | succ n ih =>
    rw [List.range_succ, List.map_append, List.lookup_append]
    by_cases h : e < n
    · rw [ih h]; rfl
    · have : e = n := by lia
      subst this
      rw [lookup_none' inj (Nat.le_refl _)]
      simp
noncomputable def GL (A D : Nat) (L : List (List Int)) (p y x : Nat) : List Int := L.getD ((p * D + y) * A + x) []
noncomputable def keyE (A D e : Nat) : List Int := [((e / A / D : Nat) : Int), ((e % A : Nat) : Int), ((e / A % D : Nat) : Int)]
theorem keyE_inj (A D i j : Nat) (h : keyE A D i = keyE A D j) : i = j := by
  unfold keyE at h
  simp only [List.cons.injEq, and_true] at h
  obtain ⟨h1, h2, h3⟩ := h
  have h1 : i / A / D = j / A / D := by lia
  have h2 : i % A = j % A := by lia
  have h3 : i / A % D = j / A % D := by lia
  have e1 : i / A = j / A := by rw [← Nat.div_add_mod (i / A) D, ← Nat.div_add_mod (j / A) D, h1, h3]
  rw [← Nat.div_add_mod i A, ← Nat.div_add_mod j A, e1, h2]
theorem keyE_at {A D p y x : Nat} (hx : x < A) (hy : y < D) : keyE A D ((p * D + y) * A + x) = [(p : Int), (x : Int), (y : Int)] := by
  unfold keyE
  have e1 : ((p * D + y) * A + x) / A = p * D + y := by
    rw [Nat.mul_comm, Nat.mul_add_div (by lia), Nat.div_eq_of_lt hx, Nat.add_zero]
  have e2 : ((p * D + y) * A + x) % A = x := by
    rw [Nat.mul_comm, Nat.mul_add_mod, Nat.mod_eq_of_lt hx]
  have e3 : (p * D + y) / D = p := by rw [Nat.mul_comm, Nat.mul_add_div (by lia), Nat.div_eq_of_lt hy, Nat.add_zero]
  have e4 : (p * D + y) % D = y := by rw [Nat.mul_comm, Nat.mul_add_mod, Nat.mod_eq_of_lt hy]
  rw [e1, e2, e3, e4]
noncomputable def dsL (A D : Nat) (L : List (List Int)) : List (List Int × PV) := (List.range L.length).map fun e => (keyE A D e, .list (iL (L.getD e [])))
noncomputable def rowL (A : Nat) (L : List (List Int)) (i : Nat) : List PV := (List.range A).map fun x => if i * A + x < L.length then .list (iL (L.getD (i * A + x) [])) else .none
theorem getD_snoc_old {L : List (List Int)} {r : List Int} {e : Nat} (h : e < L.length) : (L ++ [r]).getD e [] = L.getD e [] := by
  rw [List.getD_eq_getElem?_getD, List.getD_eq_getElem?_getD, List.getElem?_append_left h]
theorem getD_snoc_new {L : List (List Int)} {r : List Int} : (L ++ [r]).getD L.length [] = r := by
  rw [List.getD_eq_getElem?_getD, List.getElem?_append_right (Nat.le_refl _), Nat.sub_self]; rfl
theorem dsL_snoc (A D : Nat) (L : List (List Int)) (r : List Int) : dsL A D (L ++ [r]) = dsL A D L ++ [(keyE A D L.length, .list (iL r))] := by
  unfold dsL
  rw [List.length_append, List.length_singleton, List.range_succ, List.map_append, List.map_singleton, getD_snoc_new]
  congr 1
  apply List.map_congr_left
  intro e he
  rw [getD_snoc_old (List.mem_range.mp he)]
theorem rowL_snoc {A : Nat} {L : List (List Int)} {r : List Int} {t x : Nat} (hx : x < A) (hL : L.length = t * A + x) (j : Nat) :
    (if j = t then (rowL A L j).set x (.list (iL r)) else rowL A L j) = rowL A (L ++ [r]) j := by
  have key : ∀ i, i < A → (j * A + i = t * A + x ↔ (j = t ∧ i = x)) := fun i hi => by
    constructor
    · intro h
      have h1 : (j * A + i) / A = j := by rw [Nat.mul_comm, Nat.mul_add_div (by lia), Nat.div_eq_of_lt hi, Nat.add_zero]
      have h2 : (t * A + x) / A = t := by rw [Nat.mul_comm, Nat.mul_add_div (by lia), Nat.div_eq_of_lt hx, Nat.add_zero]
      have h3 : j = t := by rw [← h1, ← h2, h]
      subst h3
      exact ⟨rfl, Nat.add_left_cancel h⟩
    · rintro ⟨rfl, rfl⟩; rfl
  apply List.ext_getElem
  · split <;> simp [rowL]
  · intro i h1 h2
    have hi : i < A := by simpa [rowL] using h2
    have hk := key i hi
    by_cases hj : j = t
    · subst hj
      simp only [if_true, List.getElem_set, rowL, List.getElem_map, List.getElem_range, List.length_append, List.length_singleton]
      by_cases hix : x = i
      · subst hix
        rw [if_pos rfl, if_pos (by rw [hL]; exact Nat.lt_succ_self _), ← hL, getD_snoc_new]
      · rw [if_neg hix]
        by_cases hlt : j * A + i < L.length
        · rw [if_pos hlt, if_pos (Nat.lt_succ_of_lt hlt), getD_snoc_old hlt]
        · rw [if_neg hlt, if_neg (fun h => hlt (Nat.lt_of_le_of_ne (Nat.le_of_lt_succ h) fun e => hix (Nat.add_left_cancel (e.trans hL)).symm))]
    · simp only [if_neg hj, rowL, List.getElem_map, List.getElem_range, List.length_append, List.length_singleton]
      by_cases hlt : j * A + i < L.length
      · rw [if_pos hlt, if_pos (Nat.lt_succ_of_lt hlt), getD_snoc_old hlt]
      · have : j * A + i ≠ t * A + x := fun h => hj (hk.mp h).1
        rw [if_neg hlt, if_neg (fun h => hlt (Nat.lt_of_le_of_ne (Nat.le_of_lt_succ h) fun e => this (e.trans hL)))]
theorem rowL_nil (A i : Nat) : rowL A [] i = List.replicate A .none := by
  unfold rowL
  apply List.ext_getElem <;> simp
theorem rowL_full {A D many p y : Nat} {L : List (List Int)} (hL : L.length = many * D * A) (hp : p < many) (hy : y < D) : rowL A L (p * D + y) = (List.range A).map fun x => .list (iL (GL A D L p y x)) := by
  unfold rowL GL
  apply List.map_congr_left
  intro x hx
  rw [List.mem_range] at hx
  have h1 : (p + 1) * D ≤ many * D := Nat.mul_le_mul_right D hp
  have h2 : (p * D + y + 1) * A ≤ many * D * A := Nat.mul_le_mul_right A (by rw [Nat.succ_mul] at h1; lia)
  rw [Nat.succ_mul] at h2
  rw [if_pos (by lia)]
noncomputable def fillM (μ : Mu) (as : List Addr) (d pl : Addr) (A D : Nat) (t : Int × Int × List (List Int)) : Mu :=
  muF ((μ.set d (.dict (dsL A D t.2.2))).set pl (.list [.int t.1, .int t.2.1])) as (rowL A t.2.2)
theorem filled_ok (pg : Pg c) {n b W H many : Nat} {pl : Addr} {x0 y0 : Int} (hn : n = 1 ∨ n = 2) (hW : W ≤ 20) (hH : H ≤ 20) (hm0 : 0 < many) (hm : many ≤ 20) (hpl : μ pl = none) (hx0 : 0 ≤ x0) (hy0 : 0 ≤ y0)
    (hQ : ∀ (L : List (List Int)) x' y', L.length = many * upN H n * upN W n → (∀ r ∈ L, r.length = n * n) → 0 ≤ x' → 0 ≤ y' → Q (.tuple [gridP n (upN W n) (upN H n) many (GL (upN W n) (upN H n) L), .dict (dsL (upN W n) (upN H n) L)]) (μ.set pl (.list [.int x', .int y']))) :
    WC c 6 (.ref 767) [.ptr pl, frameP n b W H many, .int n] (μ.set pl (.list [.int x0, .int y0])) Q := by
  have hnI : (n : Int) = 1 ∨ (n : Int) = 2 := by rcases hn with rfl | rfl <;> decide
  have hn4 : n * n ≤ 4 := by rcases hn with rfl | rfl <;> decide
  have hA2 := upN_le (w := W) hn
  have hD2 := upN_le (w := H) hn
  generalize hA : upN W n = A at hQ hA2
  generalize hD : upN H n = D at hQ hD2
  have hAI : up (W : Int) (n : Int) = (A : Int) := by rw [up_nat hn, hA]
  have hDI : up (H : Int) (n : Int) = (D : Int) := by rw [up_nat hn, hD]
  have hAD : ∀ p y x, p < many → y < D → x < A → (p * D + y) * A + x < 10000 := fun p y x hp hy hx => by
    have h1 : p * D ≤ 20 * 20 := Nat.mul_le_mul (by lia) (by lia)
    have h2 : (p * D + y) * A ≤ 420 * 20 := Nat.mul_le_mul (by lia) (by lia)
    lia
  refine WC_def pg.F79 pg.ok.lim rfl rfl (WSs_cons ?_)
  refine WS_Swap rfl rfl (by decide) (WE_Tuple ?_)
  refine WEs_cons rfl (WE_CallN pg.ok rfl (.inl pg.h75) rfl (callee_cls pg.ok pg.k75) rfl ?_)
  walk_at "go"
  refine WO_call (grid_ok pg hm0 (by lia) hnI hAI hDI (by lia) (by lia) fun as hl hnd hfr => ?_)
  refine WEs_cons rfl (WE_Dict0 pg.ok fun d hd => WEs_nil ⟨by simp, _, rfl, rfl, ?_⟩)
  obtain ⟨hda, hdm⟩ := muF_none hd
  have hdp : d ≠ pl := by rintro rfl; rw [Mu.set_self] at hdm; cases hdm
  have hdn : μ d = none := by rwa [Mu.set_ne _ _ hdp] at hdm
  have hpa : pl ∉ as := fun h => by have := hfr pl h; rw [Mu.set_self] at this; cases this
  have hfr' : ∀ a ∈ as, μ a = none ∧ a ≠ d ∧ a ≠ pl := fun a ha => by
    have h1 : a ≠ pl := by rintro rfl; exact hpa ha
    have := hfr a ha
    rw [Mu.set_ne _ _ h1] at this
    exact ⟨this, by rintro rfl; exact hda ha, h1⟩
  have e0 : (muF (μ.set pl (.list [.int x0, .int y0])) as (fun _ => List.replicate A .none)).set d (.dict []) = fillM μ as d pl A D (x0, y0, []) := by
    unfold fillM
    rw [← muF_over hda, Mu.set_comm (Ne.symm hdp)]
    exact muF_congr fun i _ => (rowL_nil A i).symm
  rw [e0]
  dsimp only [List.reverse, List.reverseAux, List.zip, List.zipWith, List.foldl]
  refine WSs_cons (WS_ForR (σ := Int × Int × List (List Int)) rfl rfl (.inl rfl) ?_)
  walk_at "go"
  refine WO_len_list (len_mr (by assumption) (by decide)) ?_
  rw [List.length_map, List.length_range]
  walk_at "go"
  let L : Nat → Int × Int × List (List Int) → Rho := fun _ _ => [("pool", .ptr pl), ("frame", frameP n b W H many), ("side", .int n), ("grid", gridM n as D many), ("rows", .ptr d)]
  let I : Nat → Int × Int × List (List Int) → Prop := fun p t => 0 ≤ t.1 ∧ 0 ≤ t.2.1 ∧ t.2.2.length = p * D * A ∧ ∀ r ∈ t.2.2, r.length = n * n
  refine ⟨many, L, fun _ t => fillM μ as d pl A D t, I, (x0, y0, []), rfl, Nat.le_trans (by assumption) (by decide), ⟨hx0, hy0, by simp, fun _ h => nomatch h⟩, .of rfl, .refl _, fun p t hp hI => ?_, fun t ρ' μ' hI hL hM => ?_⟩
  · (try dsimp only at hI ⊢)
    obtain ⟨hI1, hI2, hI3, hI4⟩ := hI
    walk_at "go"
    refine WO.le (j := 3) (WO_call (blocks_ok pg hp (by lia) hnI (by lia) (by lia) ?_)) (by decide)
    rw [hAI, hDI]
    refine WA_Tuple rfl rfl ?_
    walk_at "ass"
    refine WSs_cons (WS_ForR (σ := Int × Int × List (List Int)) rfl rfl (.inl rfl) ?_)
    walk_at "go"
    let L : Nat → Int × Int × List (List Int) → Rho := fun _ _ => [("across", .int A), ("place", .int p), ("pool", .ptr pl), ("frame", frameP n b W H many), ("side", .int n), ("grid", gridM n as D many), ("rows", .ptr d)]
    let I : Nat → Int × Int × List (List Int) → Prop := fun y t => 0 ≤ t.1 ∧ 0 ≤ t.2.1 ∧ t.2.2.length = (p * D + y) * A ∧ ∀ r ∈ t.2.2, r.length = n * n
    refine ⟨D, L, fun _ t => fillM μ as d pl A D t, I, t, rfl, by lia, ⟨hI1, hI2, hI3, hI4⟩, .of rfl, .refl _, fun y t hy hI => ?_, fun t ρ' μ' hI hL hM => ?_⟩
    · clear hI1 hI2 hI3 hI4
      (try dsimp only at hI ⊢)
      obtain ⟨hI1, hI2, hI3, hI4⟩ := hI
      refine WSs_cons (WS_ForR (σ := Int × Int × List (List Int)) rfl rfl (.inl rfl) ?_)
      walk_at "go"
      let L : Nat → Int × Int × List (List Int) → Rho := fun _ _ => [("y", .int y), ("across", .int A), ("place", .int p), ("pool", .ptr pl), ("frame", frameP n b W H many), ("side", .int n), ("grid", gridM n as D many), ("rows", .ptr d)]
      let I : Nat → Int × Int × List (List Int) → Prop := fun x t => 0 ≤ t.1 ∧ 0 ≤ t.2.1 ∧ t.2.2.length = (p * D + y) * A + x ∧ ∀ r ∈ t.2.2, r.length = n * n
      refine ⟨A, L, fun _ t => fillM μ as d pl A D t, I, t, rfl, by lia, ⟨hI1, hI2, hI3, hI4⟩, .of rfl, .refl _, fun x t hx hI => ?_, fun t ρ' μ' hI hL hM => ?_⟩
      · clear hI1 hI2 hI3 hI4
        obtain ⟨xx, yy, L⟩ := t
        (try dsimp only at hI ⊢)
        obtain ⟨hI1, hI2, hI3, hI4⟩ := hI
        have hlen : L.length < 10000 := by rw [hI3]; exact hAD p y x hp hy hx
        have eM : ∀ (L' : List (List Int)) xx yy, fillM μ as d pl A D (xx, yy, L') = (muF (μ.set d (.dict (dsL A D L'))) as (rowL A L')).set pl (.list [.int xx, .int yy]) := fun L' xx yy => muF_over hpa
        rw [eM]
        refine WSs_cons (WS_Assign (WE_Sub ?_) rfl rfl rfl)
        walk_at "go"
        refine ⟨by simp, ?_⟩
        walk_at "go"
        refine WO.le (j := 1) (WO_call (next_ok pg (by decide) (by decide) hI1 hI2 fun r x1 y1 hr0 hr1 hx1 hy1 => ?_)) (by decide)
        obtain ⟨re, hre, hre1, hre2⟩ : ∃ re : Int, [PV.int 9, .int 60, .int 700][r.toNat]? = some (.int re) ∧ 1 ≤ re ∧ re ≤ 700 := by
          have : r = 0 ∨ r = 1 ∨ r = 2 := by lia
          rcases this with rfl | rfl | rfl
          · exact ⟨9, rfl, by decide, by decide⟩
          · exact ⟨60, rfl, by decide, by decide⟩
          · exact ⟨700, rfl, by decide, by decide⟩
        walk_at "go"
        refine WO_get_list (v := .int re) (by lia) (by lia) hre ?_
        refine WA_Name rfl (by first | exact .inl rfl | exact .inr ⟨rfl, by with_unfolding_all decide⟩) ?_
        refine WSs_cons (WS_Assign (WE_CompH [("pool", .ptr pl), ("reach", .int re)] rfl rfl rfl rfl (.inl rfl) (compRM (σ := Int × Int × List Int) ?_)) rfl rfl rfl)
        walk_at "go"
        refine WO_mul (.inr (by lia)) ?_
        have enn : ((n : Int) * (n : Int)) = ((n * n : Nat) : Int) := by simp
        rw [enn]
        walk_at "go"
        refine ⟨n * n, fun s => (muF (μ.set d (.dict (dsL A D L))) as (rowL A L)).set pl (.list [.int s.1, .int s.2.1]), fun i rs s => 0 ≤ s.1 ∧ 0 ≤ s.2.1 ∧ rs = iL s.2.2 ∧ s.2.2.length = i, (x1, y1, []), rfl, Nat.le_trans (by assumption) (by decide), rfl, ⟨hx1, hy1, rfl, rfl⟩, fun i rs s hi hI => ?_, fun rs s hI => ?_⟩
        · obtain ⟨h1, h2, rfl, h4⟩ := hI
          walk_at "go"
          refine WO_mul (.inl (by decide)) ?_
          walk_at "go"
          refine WO.le (j := 1) (WO_call (next_ok pg (by lia) (by lia) h1 h2 fun r x1 y1 hr0 hr1 hx1 hy1 => ?_)) (by decide)
          walk_at "go"
          exact ⟨(x1, y1, s.2.2 ++ [r - re]), rfl, hx1, hy1, by simp [iL], by simp [h4]⟩
        · obtain ⟨x2, y2, rl⟩ := s
          (try dsimp only at hI ⊢)
          obtain ⟨h1, h2, rfl, h4⟩ := hI
          have hkey : keyE A D L.length = [(p : Int), (x : Int), (y : Int)] := by rw [hI3]; exact keyE_at hx hy
          walk_at "go"
          refine ⟨by simp, ?_⟩
          refine WO_set_dict (i := [(p : Int), (x : Int), (y : Int)]) (ds := dsL A D L) ?_ ?_ (by simp [dsL]; lia) ?_
          · rw [Mu.set_ne _ _ hdp, muF_out hda, Mu.set_self]
          · rw [← hkey]; exact lookup_none' (keyE_inj A D) (Nat.le_refl _)
          have e1 : ((muF (μ.set d (.dict (dsL A D L))) as (rowL A L)).set pl (.list [.int x2, .int y2])).set d (.dict (dsL A D L ++ [([(p : Int), (x : Int), (y : Int)], .list (iL rl))])) =
              muF ((μ.set d (.dict (dsL A D (L ++ [rl])))).set pl (.list [.int x2, .int y2])) as (rowL A L) := by
            rw [muF_over hpa, Mu.set_comm (Ne.symm hdp), ← muF_over hda, Mu.set_set, dsL_snoc, hkey]
          rw [e1]
          refine WSs_cons (WS_Expr rfl ?_)
          walk_at "go"
          refine ⟨by simp, .ptrd (l := dsL A D (L ++ [rl])) ?_, ?_⟩
          · rw [muF_out hda, Mu.set_ne _ _ hdp, Mu.set_self]
          refine WO_get_ptrd (i := [(p : Int), (x : Int), (y : Int)]) (ds := dsL A D (L ++ [rl])) (v := .list (iL rl)) ?_ ?_ ?_
          · rw [muF_out hda, Mu.set_ne _ _ hdp, Mu.set_self]
          · have := lookup_some' (v := fun e => PV.list (iL ((L ++ [rl]).getD e []))) (keyE_inj A D) (n := (L ++ [rl]).length) (e := L.length) (by simp)
            rw [hkey] at this
            simp only [getD_snoc_new] at this
            exact this
          refine WEs_nil (WO.le (j := 1) (WO_call (grid_put_ok pg (A := A) hp hx hy (by lia) (by lia) (by lia) hl hnd (fun i _ => by simp [rowL]) (by lia) ?_)) (by decide))
          refine ⟨rfl, ?_⟩
          rw [muF_congr (fun i _ => rowL_snoc (r := rl) hx hI3 i)]
          refine WSs_nil ⟨(x2, y2, L ++ [rl]), ⟨h1, h2, by rw [List.length_append, hI3]; rfl, fun r hr => ?_⟩, .of rfl, .refl _⟩
          rcases List.mem_append.mp hr with hr | hr
          · exact hI4 r hr
          · rw [List.mem_singleton] at hr; subst hr; exact h4
      · (try dsimp only at hI hL hM)
        refine WSs_weak hL hM (WSs_nil ⟨t, ⟨hI.1, hI.2.1, by rw [hI.2.2.1, ← Nat.add_assoc, Nat.succ_mul], hI.2.2.2⟩, .of rfl, .refl _⟩)
    · (try dsimp only at hI hL hM)
      refine WSs_weak hL hM (WSs_nil ⟨t, ⟨hI.1, hI.2.1, by rw [hI.2.2.1, Nat.succ_mul], hI.2.2.2⟩, .of rfl, .refl _⟩)
  · obtain ⟨xx, yy, L⟩ := t
    (try dsimp only at hI hL hM)
    obtain ⟨hI1, hI2, hI3, hI4⟩ := hI
    refine WSs_weak hL hM ?_
    unfold fillM
    (try dsimp only)
    refine WSs_frzF [("grid", gridP n A D many (GL A D L)), ("rows", .ptr d)] hnd (fun a ha => ?_) ⟨⟨_, rfl, ?_⟩, ⟨_, rfl, .refl _⟩, trivial⟩ ?_
    · obtain ⟨h1, h2, h3⟩ := hfr' a ha
      rw [Mu.set_ne _ _ h3, Mu.set_ne _ _ h2]; exact h1
    · refine FrzF.inst (c := c) (cls := "Grid") (n := "planes") [("many", .int ((n : Int) * (n : Int)))] [] ?_
      refine FrzF.listMap fun p hp => ?_
      rw [List.mem_range] at hp
      unfold ptrs
      refine FrzF.listMap fun y hy => ?_
      rw [List.mem_range] at hy
      rw [← rowL_full hI3 hp hy]
      have hlt : p * D + y < as.length := by
        have h1 : (p + 1) * D ≤ many * D := Nat.mul_le_mul_right D hp
        rw [Nat.succ_mul] at h1
        lia
      exact FrzF.ptr (by rw [List.getD_eq_getElem?_getD, List.getElem?_eq_getElem hlt]; rfl)
    refine WSs_frzD (d := d) (ds := dsL A D L) [("grid", gridP n A D many (GL A D L)), ("rows", .dict (dsL A D L))] ?_ ⟨⟨_, rfl, .inl rfl⟩, ⟨_, rfl, .inr ⟨rfl, rfl⟩⟩, trivial⟩ ?_
    · rw [Mu.set_ne _ _ hdp, Mu.set_self]
    have e2 : ((μ.set d (.dict (dsL A D L))).set pl (.list [.int xx, .int yy])).del d = μ.set pl (.list [.int xx, .int yy]) := by
      rw [Mu.set_del_ne (Ne.symm hdp), Mu.del_set hdn]
    rw [e2]
    walk_at "go"
    exact ⟨by simp, hQ L xx yy hI3 hI4 hI1 hI2⟩
end
section
variable {c : Cx} {k : Nat} {μ : Mu} {Q : PPost}
noncomputable def poolM (μ : Mu) (a : Addr) (x y : Int) : Mu := μ.set a (.list [.int x, .int y])
theorem law_next {k : Nat} {P : PV → Mu → Prop} (pg : Pg c) {a : Addr} {x y m : Int} (hm : 1 ≤ m) (hm2 : m ≤ 100000) (hx : 0 ≤ x) (hy : 0 ≤ y) (hQ : ∀ r x' y', 0 ≤ r → r < m → 0 ≤ x' → 0 ≤ y' → P (.int r) (poolM μ a x' y')) :
    WO c (k + 1) (cl (.ref 762)) [.ptr a, .int m] (poolM μ a x y) P := WO.le (WO_call (next_ok pg hm hm2 hx hy hQ)) (Nat.le_add_left _ _)
noncomputable abbrev lawS : SC := scD (stAt 86)
noncomputable abbrev lawB (i : Nat) : List Stmt := ((fBody (stAt 86)).take 20).drop i
structure Dims (n many b W H : Nat) : Prop where
  n : n = 1 ∨ n = 2
  m : many = 1 ∨ many = 2
  b : b = 8 ∨ b = 12
  W : 1 ≤ W ∧ W ≤ 5
  H : 1 ≤ H ∧ H ≤ 4
noncomputable def rho2 (a : Addr) (n many b W H : Nat) : Rho := [("pool", .ptr a), ("side", .int n), ("many", .int many), ("bits", .int b), ("width", .int W), ("height", .int H), ("most", .int (moI b))]
theorem law_0 (pg : Pg c) {sa : Addr} {vs : List Value} {l : List Int} (hs : c.h₀.IsList sa vs.toArray) (hv : IntsAre vs l) (hl : l.length ≤ 1000) (h : ∀ a x y n many b W H, μ a = none → 0 ≤ x → 0 ≤ y → Dims n many b W H → WSs c (k + 1) lawS (rho2 a n many b W H) (poolM μ a x y) (lawB 3) Q) :
    WSs c (k + 1) lawS [("script", .raw (.ref sa))] μ (lawB 0) Q := by
  refine WSs_cons ?_
  walk_at "go"
  refine WO.le (j := 1) (WO_call (begin_ok pg hs hv hl fun a x y ha hx hy => ?_)) (Nat.le_add_left _ _)
  show WA _ _ _ _ (poolM μ a x y) _ _ _
  refine WA_Name rfl (.inr ⟨rfl, by with_unfolding_all decide⟩) ?_
  refine WSs_cons (WS_Assign (WE_Tuple ?_) rfl rfl rfl)
  walk_at "go"
  refine law_next pg (by decide) (by decide) hx hy fun r1 x y hr0 hr1 hx hy => ?_
  walk_at "go"
  refine law_next pg (by decide) (by decide) hx hy fun r2 x y hr2 hr3 hx hy => ?_
  walk_at "go"
  refine ⟨by simp, ?_⟩
  walk_at "go"
  refine law_next pg (by decide) (by decide) hx hy fun r3 x y hr4 hr5 hx hy => ?_
  obtain ⟨b, hb1, hb⟩ : ∃ b : Nat, [PV.int 8, .int 12][r3.toNat]? = some (.int b) ∧ (b = 8 ∨ b = 12) := by
    have : r3 = 0 ∨ r3 = 1 := by lia
    rcases this with rfl | rfl
    · exact ⟨8, rfl, .inl rfl⟩
    · exact ⟨12, rfl, .inr rfl⟩
  walk_at "go"
  refine WO_get_list (v := .int b) (by lia) (by lia) hb1 ?_
  refine WEs_nil ⟨by simp, ?_⟩
  refine WA_Tuple rfl rfl ?_
  walk_at "ass"
  refine WSs_cons (WS_Assign (WE_Tuple ?_) rfl rfl rfl)
  walk_at "go"
  refine law_next pg (by decide) (by decide) hx hy fun r4 x y hr6 hr7 hx hy => ?_
  walk_at "go"
  refine law_next pg (by decide) (by decide) hx hy fun r5 x y hr8 hr9 hx hy => ?_
  walk_at "go"
  refine WO_pow (by lia) (by lia) (by decide) ?_
  walk_at "go"
  have e2 : (2 ^ ((b : Int)).toNat - 1 : Int) = moI b := by rcases hb with rfl | rfl <;> rfl
  rw [e2]
  refine ⟨by simp, ?_⟩
  refine WA_Tuple rfl rfl ?_
  walk_at "ass"
  obtain ⟨n, hn⟩ : ∃ n : Nat, 1 + r1 = (n : Int) := ⟨(1 + r1).toNat, by lia⟩
  obtain ⟨many, hmany⟩ : ∃ n : Nat, 1 + r2 = (n : Int) := ⟨(1 + r2).toNat, by lia⟩
  obtain ⟨W, hW⟩ : ∃ n : Nat, 1 + r4 = (n : Int) := ⟨(1 + r4).toNat, by lia⟩
  obtain ⟨H, hH⟩ : ∃ n : Nat, 1 + r5 = (n : Int) := ⟨(1 + r5).toNat, by lia⟩
  rw [hn, hmany, hW, hH]
  refine WSs_weak (ρ' := rho2 a n many b W H) (.of rfl) (.refl _) ?_
  exact h a x y n many b W H ha hx hy ⟨by lia, by lia, hb, by lia, by lia⟩
noncomputable def rho4 (a : Addr) (n many b W H : Nat) (q : Nat → List Int) : Rho := [("pool", .ptr a), ("side", .int n), ("many", .int many), ("bits", .int b), ("width", .int W), ("height", .int H), ("most", .int (moI b)), ("frame", frameP n b W H many), ("quant", .list ((List.range many).map fun p => .tuple (iL (q p))))]
structure QOk (n many : Nat) (q : Nat → List Int) : Prop where
  l : ∀ p, p < many → (q p).length = n * n
  b : ∀ p, p < many → ∀ x ∈ q p, x.natAbs < 2 ^ 64
theorem map_range {α : Type} (l : List α) (d : α) {β : Type} (f : α → β) : l.map f = (List.range l.length).map fun i => f (l.getD i d) := by
  apply List.ext_getElem
  · simp
  · intro i h1 h2
    rw [List.length_map] at h1
    simp [List.getD_eq_getElem?_getD, h1]
theorem law_3 (pg : Pg c) {a : Addr} {x y : Int} {n many b W H : Nat} (D : Dims n many b W H) (hx : 0 ≤ x) (hy : 0 ≤ y)
    (h : ∀ x y q, 0 ≤ x → 0 ≤ y → QOk n many q → WSs c (k + 2) lawS (rho4 a n many b W H q) (poolM μ a x y) (lawB 5) Q) : WSs c (k + 2) lawS (rho2 a n many b W H) (poolM μ a x y) (lawB 3) Q := by
  have hn4 : n * n ≤ 4 := by rcases D.n with rfl | rfl <;> decide
  have hm2 : many ≤ 2 := n12 D.m
  have hn2 : n ≤ 2 := n12 D.n
  unfold rho2
  refine WSs_cons (WS_Assign (WE_CallN pg.ok rfl (.inl pg.h73) rfl (callee_cls pg.ok pg.k73) rfl ?_) rfl rfl rfl)
  refine WEs_cons rfl (WE_str ?_)
  walk_at "go"
  refine WE_CompR [] compP rfl rfl rfl rfl (.inl rfl) ?_
  walk_at "go"
  refine ⟨many, rfl, Nat.le_trans (by assumption) (by decide), fun i hi => ?_, ?_⟩
  · refine WE_CallN pg.ok rfl (.inl pg.h72) rfl (callee_cls pg.ok pg.k72) rfl ?_
    walk_at "go"
    exact WO.le (j := 2) (WO_call (component_ok pg ⟨rfl, rfl⟩)) (Nat.le_add_left _ _)
  walk_at "go"
  refine WO.le (j := 2) (WO_call (frame_ok pg ?_)) (Nat.le_add_left _ _)
  refine WA_Name rfl (.inl rfl) ?_
  refine WSs_cons (WS_CompH [("pool", .ptr a), ("side", .int n)] rfl rfl rfl rfl rfl (.inl rfl) rfl (compRM (σ := Int × Int × List (List Int)) ?_))
  walk_at "go"
  refine ⟨many, fun t => poolM μ a t.1 t.2.1, fun i rs t => 0 ≤ t.1 ∧ 0 ≤ t.2.1 ∧ rs = t.2.2.map (fun l => .tuple (iL l)) ∧ t.2.2.length = i ∧ ∀ l ∈ t.2.2, l.length = n * n ∧ ∀ x ∈ l, x.natAbs < 2 ^ 64, (x, y, []), rfl, Nat.le_trans (by assumption) (by decide), rfl, ⟨hx, hy, rfl, rfl, fun _ h => nomatch h⟩, fun i rs t hi hI => ?_, fun rs t hI => ?_⟩
  · obtain ⟨h1, h2, rfl, h4, h5⟩ := hI
    walk_at "go"
    refine WE_CompH [("pool", .ptr a)] rfl rfl rfl rfl (.inl rfl) (compRM (σ := Int × Int × List Int) ?_)
    walk_at "go"
    refine WO_mul (.inr (Nat.lt_of_le_of_lt hn2 (by decide))) ?_
    have enn : ((n : Int) * (n : Int)) = ((n * n : Nat) : Int) := by simp
    rw [enn]
    walk_at "go"
    refine ⟨n * n, fun s => poolM μ a s.1 s.2.1, fun i rs s => 0 ≤ s.1 ∧ 0 ≤ s.2.1 ∧ rs = iL s.2.2 ∧ s.2.2.length = i ∧ ∀ x ∈ s.2.2, x.natAbs < 2 ^ 64, (t.1, t.2.1, []), rfl, Nat.le_trans (by assumption) (by decide), rfl, ⟨h1, h2, rfl, rfl, fun _ h => nomatch h⟩, fun i rs s hi hI => ?_, fun rs s hI => ?_⟩
    · obtain ⟨g1, g2, rfl, g4, g5⟩ := hI
      walk_at "go"
      refine law_next pg (by decide) (by decide) g1 g2 fun r x1 y1 hr0 hr1 hx1 hy1 => ?_
      walk_at "go"
      refine ⟨(x1, y1, s.2.2 ++ [1 + r]), rfl, hx1, hy1, by simp [iL], by simp [g4], fun z hz => ?_⟩
      rcases List.mem_append.mp hz with hz | hz
      · exact g5 z hz
      · rw [List.mem_singleton] at hz; lia
    · obtain ⟨g1, g2, rfl, g4, g5⟩ := hI
      walk_at "go"
      refine WO_tuple (by rw [iL_length, g4]; exact Nat.le_trans hn4 (by decide)) ?_
      refine ⟨(s.1, s.2.1, t.2.2 ++ [s.2.2]), rfl, g1, g2, by simp, by simp [h4], fun l hl => ?_⟩
      rcases List.mem_append.mp hl with hl | hl
      · exact h5 l hl
      · rw [List.mem_singleton] at hl; subst hl; exact ⟨g4, g5⟩
  · obtain ⟨x2, y2, L⟩ := t
    (try dsimp only at hI ⊢)
    obtain ⟨h1, h2, rfl, h4, h5⟩ := hI
    rw [map_range L [], h4]
    refine WSs_weak (ρ' := rho4 a n many b W H (fun p => L.getD p [])) (.of rfl) (.refl _) ?_
    have key : ∀ p, p < many → L.getD p [] ∈ L := fun p hp => by
      rw [List.getD_eq_getElem?_getD, List.getElem?_eq_getElem (by lia)]; exact List.getElem_mem _
    exact h x2 y2 _ h1 h2 ⟨fun p hp => (h5 _ (key p hp)).1, fun p hp => (h5 _ (key p hp)).2⟩
end
section
variable {c : Cx} {k : Nat} {μ : Mu} {Q : PPost}
theorem pdOk_tab {H W : Nat} {S : Nat → Nat → Int} (k : Nat) : pdOk (k + 3) (tab H W S) = true := by
  exact List.all_eq_true.mpr fun p hp => by
    obtain ⟨y, _, rfl⟩ := List.mem_map.mp hp
    exact List.all_eq_true.mpr fun p hp => by
      obtain ⟨x, _, rfl⟩ := List.mem_map.mp hp
      rfl
theorem pdOk_list {l : List PV} {k : Nat} (h : ∀ p ∈ l, pdOk k p = true) : pdOk (k + 1) (.list l) = true := by
  exact List.all_eq_true.mpr h
theorem GL_len {n many W H : Nat} {L : List (List Int)} (hL : L.length = many * upN H n * upN W n) (hLn : ∀ r ∈ L, r.length = n * n) : ∀ p y x, p < many → y < upN H n → x < upN W n → (GL (upN W n) (upN H n) L p y x).length = n * n := fun p y x hp hy hx => by
  unfold GL
  generalize upN W n = A at *
  generalize upN H n = D at *
  have h1 : (p + 1) * D ≤ many * D := Nat.mul_le_mul_right D hp
  have h2 : (p * D + y + 1) * A ≤ many * D * A := Nat.mul_le_mul_right A (by rw [Nat.succ_mul] at h1; lia)
  rw [Nat.succ_mul] at h2
  rw [List.getD_eq_getElem?_getD, List.getElem?_eq_getElem (by lia)]
  exact hLn _ (List.getElem_mem _)
theorem ds_get {A D many p y x : Nat} {L : List (List Int)} (hL : L.length = many * D * A) (hp : p < many) (hy : y < D) (hx : x < A) : (dsL A D L).lookup [(p : Int), (x : Int), (y : Int)] = some (.list (iL (GL A D L p y x))) := by
  rw [← keyE_at hx hy]
  unfold dsL GL
  have h1 : (p + 1) * D ≤ many * D := Nat.mul_le_mul_right D hp
  have h2 : (p * D + y + 1) * A ≤ many * D * A := Nat.mul_le_mul_right A (by rw [Nat.succ_mul] at h1; lia)
  rw [Nat.succ_mul] at h2
  exact lookup_some' (v := fun e => PV.list (iL (L.getD e []))) (keyE_inj A D) (by lia)
noncomputable def rho7 (a : Addr) (n many b W H : Nat) (q : Nat → List Int) (L : List (List Int)) : Rho := [("pool", .ptr a), ("side", .int n), ("many", .int many), ("bits", .int b), ("width", .int W), ("height", .int H), ("most", .int (moI b)), ("frame", frameP n b W H many), ("quant", .list ((List.range many).map fun p => .tuple (iL (q p)))),
  ("grid", gridP n (upN W n) (upN H n) many (GL (upN W n) (upN H n) L)), ("rows", .dict (dsL (upN W n) (upN H n) L)), ("first", .list ((List.range many).map fun p => planeP W H (tab H W (fin1 n b (GL (upN W n) (upN H n) L p) (q p)))))]
theorem law_5 (pg : Pg c) {a : Addr} {x y : Int} {n many b W H : Nat} {q : Nat → List Int} (ha : μ a = none) (D : Dims n many b W H) (qo : QOk n many q) (hx : 0 ≤ x) (hy : 0 ≤ y)
    (h : ∀ x y L, 0 ≤ x → 0 ≤ y → L.length = many * upN H n * upN W n → (∀ r ∈ L, r.length = n * n) → WSs c (k + 7) lawS (rho7 a n many b W H q L) (poolM μ a x y) (lawB 7) Q) : WSs c (k + 7) lawS (rho4 a n many b W H q) (poolM μ a x y) (lawB 5) Q := by
  have hm2 : many ≤ 2 := by have := D.m; lia
  have hm0 : 0 < many := by have := D.m; lia
  have hW := D.W
  have hH := D.H
  unfold rho4
  refine WSs_cons ?_
  walk_at "go"
  refine WO.le (j := 6) (WO_call (filled_ok pg D.n (by lia) (by lia) hm0 (by lia) ha hx hy fun L x y hL hLn hx hy => ?_)) (by lia)
  refine WA_Tuple rfl rfl ?_
  walk_at "ass"
  refine WSs_cons ?_
  walk_at "go"
  refine WO.le (j := 6) (WO_call (first_planes_ok pg (q := q) D.n D.b (by lia) (by lia) (by lia) (GL_len hL hLn) qo.l qo.b ?_)) (by lia)
  refine WA_Name rfl (.inl rfl) ?_
  refine WSs_weak (ρ' := rho7 a n many b W H q L) (.of rfl) (.refl _) ?_
  exact h x y L hx hy hL hLn
theorem law_7 (pg : Pg c) {a : Addr} {x y : Int} {n many b W H : Nat} {q : Nat → List Int} {L : List (List Int)} (D : Dims n many b W H) (qo : QOk n many q) (hL : L.length = many * upN H n * upN W n) (hLn : ∀ r ∈ L, r.length = n * n)
    (h : WSs c (k + 3) lawS (rho7 a n many b W H q L) (poolM μ a x y) (lawB 8) Q) : WSs c (k + 3) lawS (rho7 a n many b W H q L) (poolM μ a x y) (lawB 7) Q := by
  have hm2 : many ≤ 2 := by have := D.m; lia
  have hm0 : 0 < many := by have := D.m; lia
  have hW := D.W
  have hH := D.H
  have hn2 : n ≤ 2 := n12 D.n
  refine WSs_cons (WS_ForR (σ := Unit) rfl rfl (.inr ⟨rfl, by with_unfolding_all decide⟩) ?_)
  walk_at "go"
  refine ⟨many, fun _ _ => rho7 a n many b W H q L, fun _ _ => poolM μ a x y, fun _ _ => True, (), rfl, Nat.le_trans (by assumption) (by decide), trivial, .of rfl, .refl _, fun p t hp _ => ?_, fun t ρ' μ' _ hl hm => WSs_weak hl hm h⟩
  (try dsimp only)
  walk_at "go"
  refine WO_get_list (Int.natCast_nonneg _) (castL hp (by assumption) (by decide)) (get_range hp) ?_
  walk_at "go"
  refine WO.le (j := 2) (WO_call (drawn_ok pg (G := GL (upN W n) (upN H n) L) D.n (by lia) (by lia) (fun y x hy hx => ⟨GL_len hL hLn p y x hp hy hx, ds_get hL hp hy hx⟩) (qo.l p hp) (qo.b p hp) ?_)) (by lia)
  walk_at "go"
  refine WO_get_list (Int.natCast_nonneg _) (castL hp (by assumption) (by decide)) (get_range hp) ?_
  unfold planeP
  walk_at "go"
  have e1 : (2 ^ ((b : Int)).toNat : Int).fdiv 2 = ceI b := by rcases D.b with rfl | rfl <;> rfl
  refine WE_CompL [("bits", .int b), ("most", .int (moI b))] (fun p => match p with | .list l => .list (l.map (fun v => match v with | .int i => .int (clampF (i + ceI b) (moI b)) | v => v)) | p => p) rfl rfl rfl rfl (.inl rfl) ?_
  walk_at "go"
  refine ⟨_, rfl, by simp; lia, fun r hr => ?_, ?_⟩
  · obtain ⟨y, _, rfl⟩ := List.mem_map.mp hr
    refine WE_CompL [("bits", .int b), ("most", .int (moI b))] (fun v => match v with | .int i => .int (clampF (i + ceI b) (moI b)) | v => v) rfl rfl rfl rfl (.inl rfl) ?_
    walk_at "go"
    refine ⟨_, rfl, by simp; lia, fun v hv => ?_, rfl, rfl⟩
    obtain ⟨x, _, rfl⟩ := List.mem_map.mp hv
    walk_at "go"
    refine WO_pow (by lia) (by have := D.b; lia) (by decide) ?_
    walk_at "go"
    refine WO_fdiv (by decide) (by decide) ?_
    rw [e1]
    walk_at "go"
    exact WO.le (j := 1) (WO_call (held_ok pg.ok pg.F84 ⟨rfl, rfl⟩)) (Nat.le_add_left _ _)
  · have e2 : ((List.range H).map fun y => PV.list ((List.range W).map fun x => .int (fin2 n (GL (upN W n) (upN H n) L p) (q p) y x))).map (fun p => match p with | .list l => PV.list (l.map (fun v => match v with | .int i => .int (clampF (i + ceI b) (moI b)) | v => v)) | p => p) =
        (List.range H).map fun y => PV.list ((List.range W).map fun x => .int (fin1 n b (GL (upN W n) (upN H n) L p) (q p) y x)) := by
      rw [List.map_map]
      apply List.map_congr_left
      intro y _
      show PV.list (List.map _ (List.map _ _)) = _
      rw [List.map_map]
      rfl
    rw [e2]
    refine WO_same_ne (pdOk_tab 5) ⟨_, rfl, fun e => absurd e (by decide), fun _ => ?_⟩
    refine WSs_nil (WSs_nil ⟨(), trivial, ?_, .refl _⟩)
    unfold rho7
    exact .of rfl
end
section
variable {c : Cx} {k : Nat} {μ : Mu} {Q : PPost}
structure Small (across down : Bool) (w h W H : Nat) : Prop where
  w0 : 0 < w
  h0 : 0 < h
  w5 : w ≤ 5
  h5 : h ≤ 5
  W : if across then W ≤ 2 * w else W = w
  H : if down then H ≤ 2 * h else H = h
noncomputable def tabL (rows : List (List Int)) : PV := .list (rows.map fun l => .list (iL l))
theorem tabL_eq {rows : List (List Int)} {w h : Nat} (hl : rows.length = h) (hw : ∀ r ∈ rows, r.length = w) : tabL rows = tab h w (fun y x => (rows.getD y []).getD x 0) := by
  unfold tabL tab
  rw [map_range rows [], hl]
  congr 1
  apply List.map_congr_left
  intro y hy
  rw [List.mem_range] at hy
  have hm : rows.getD y [] ∈ rows := by rw [List.getD_eq_getElem?_getD, List.getElem?_eq_getElem (by lia)]; exact List.getElem_mem _
  unfold iL
  rw [map_range (rows.getD y []) 0, hw _ hm]
noncomputable def rho12 (a : Addr) (n many b W H : Nat) (q : Nat → List Int) (L : List (List Int)) (across down : Bool) (w h : Nat) (S : Nat → Nat → Nat → Int) : Rho := [("pool", .ptr a), ("side", .int n), ("many", .int many), ("bits", .int b), ("width", .int W), ("height", .int H), ("most", .int (moI b)), ("frame", frameP n b W H many), ("quant", .list ((List.range many).map fun p => .tuple (iL (q p)))),
  ("first", .list ((List.range many).map fun p => planeP W H (tab H W (fin1 n b (GL (upN W n) (upN H n) L p) (q p))))), ("across", .bool across), ("down", .bool down), ("sizes", .tuple [.int w, .int h]), ("small", .list ((List.range many).map fun p => tab h w (S p)))]
theorem law_8 (pg : Pg c) {a : Addr} {x y : Int} {n many b W H : Nat} {q : Nat → List Int} {L : List (List Int)} (ha : μ a = none) (D : Dims n many b W H) (hx : 0 ≤ x) (hy : 0 ≤ y)
    (h : ∀ x y across down w h S, 0 ≤ x → 0 ≤ y → Small across down w h W H → WSs c (k + 3) lawS (rho12 a n many b W H q L across down w h S) (poolM μ a x y) (lawB 12) Q) : WSs c (k + 3) lawS (rho7 a n many b W H q L) (poolM μ a x y) (lawB 8) Q := by
  have hm2 : many ≤ 2 := by have := D.m; lia
  have hW := D.W
  have hH := D.H
  have hmo : 1 ≤ moI b + 1 ∧ moI b + 1 ≤ 100000 := by rcases D.b with rfl | rfl <;> decide
  unfold rho7
  refine WSs_cons (WS_Assign (WE_Tuple ?_) rfl rfl rfl)
  walk_at "go"
  refine law_next pg (by decide) (by decide) hx hy fun r1 x y hr0 hr1 hx hy => ?_
  walk_at "go"
  refine law_next pg (by decide) (by decide) hx hy fun r2 x y hr2 hr3 hx hy => ?_
  walk_at "go"
  refine ⟨by simp, ?_⟩
  generalize (r1 == 0) = across
  generalize (r2 == 0) = down
  refine WA_Tuple rfl rfl ?_
  walk_at "ass"
  refine WSs_cons (WS_Assign (WE_Tuple ?_) rfl rfl rfl)
  refine WEs_cons rfl (WE.mono (Q := fun v m' => (∃ w : Nat, v = .int w ∧ 0 < w ∧ w ≤ 5 ∧ if across then W ≤ 2 * w else W = w) ∧ m' = poolM μ a x y) ?_ fun v m hv => ?_)
  · refine WE_IfExp (WT_plain rfl (WE_Name rfl rfl ?_ (.inr (.inl rfl)) rfl rfl))
    refine ⟨across, rfl, fun e => ?_, fun e => ?_⟩
    · subst e
      walk_at "go"
      refine WO_fdiv (by decide) (by decide) ?_
      have e1 : ((W : Int) + 1).fdiv 2 = (((W + 1) / 2 : Nat) : Int) := by rw [Int.fdiv_eq_ediv_of_nonneg _ (by decide)]; lia
      rw [e1]
      exact ⟨⟨(W + 1) / 2, rfl, by lia, by lia, by simp; lia⟩, rfl⟩
    · subst e
      walk_at "go"
      exact ⟨⟨W, rfl, by lia, by lia, by simp⟩, rfl⟩
  obtain ⟨⟨w, rfl, w0, w5, wW⟩, rfl⟩ := hv
  refine WEs_cons rfl (WE.mono (Q := fun v m' => (∃ h : Nat, v = .int h ∧ 0 < h ∧ h ≤ 5 ∧ if down then H ≤ 2 * h else H = h) ∧ m' = poolM μ a x y) ?_ fun v m hv => ?_)
  · refine WE_IfExp (WT_plain rfl (WE_Name rfl rfl ?_ (.inr (.inl rfl)) rfl rfl))
    refine ⟨down, rfl, fun e => ?_, fun e => ?_⟩
    · subst e
      walk_at "go"
      refine WO_fdiv (by decide) (by decide) ?_
      have e1 : ((H : Int) + 1).fdiv 2 = (((H + 1) / 2 : Nat) : Int) := by rw [Int.fdiv_eq_ediv_of_nonneg _ (by decide)]; lia
      rw [e1]
      exact ⟨⟨(H + 1) / 2, rfl, by lia, by lia, by simp; lia⟩, rfl⟩
    · subst e
      walk_at "go"
      exact ⟨⟨H, rfl, by lia, by lia, by simp⟩, rfl⟩
  obtain ⟨⟨h', rfl, h0, h5, hH'⟩, rfl⟩ := hv
  refine WEs_nil ⟨by simp, ?_⟩
  refine WA_Name rfl (by first | exact .inl rfl | exact .inr ⟨rfl, by with_unfolding_all decide⟩) ?_
  refine WSs_cons (WS_Assign (WE_ListM (WEs_nil ⟨by decide, fun sm hsm => ?_⟩)) rfl rfl rfl)
  have hsa : sm ≠ a := by rintro rfl; unfold poolM at hsm; rw [Mu.set_self] at hsm; cases hsm
  have hsn : μ sm = none := by unfold poolM at hsm; rwa [Mu.set_ne _ _ hsa] at hsm
  have e0 : (poolM μ a x y).set sm (.list []) = poolM (μ.set sm (.list [])) a x y := Mu.set_comm (Ne.symm hsa) _ _
  rw [e0]
  refine WA_Name rfl (.inl rfl) ?_
  refine WSs_cons (WS_ForR (σ := Int × Int × List (List (List Int))) rfl rfl (.inr ⟨rfl, by with_unfolding_all decide⟩) ?_)
  walk_at "go"
  refine ⟨many, fun _ _ => [("small", .ptr sm), ("sizes", .tuple [.int w, .int h']), ("pool", .ptr a), ("side", .int n), ("many", .int many), ("bits", .int b), ("width", .int W), ("height", .int H), ("most", .int (moI b)), ("frame", frameP n b W H many), ("quant", .list ((List.range many).map fun p => .tuple (iL (q p)))),
      ("first", .list ((List.range many).map fun p => planeP W H (tab H W (fin1 n b (GL (upN W n) (upN H n) L p) (q p))))), ("across", .bool across), ("down", .bool down)],
    fun _ t => poolM (μ.set sm (.list (t.2.2.map tabL))) a t.1 t.2.1, fun i t => 0 ≤ t.1 ∧ 0 ≤ t.2.1 ∧ t.2.2.length = i ∧ ∀ rows ∈ t.2.2, rows.length = h' ∧ ∀ r ∈ rows, r.length = w, (x, y, []), rfl, Nat.le_trans (by assumption) (by decide), ⟨hx, hy, rfl, fun _ h => nomatch h⟩, .of rfl, .refl _, fun i t hi hI => ?_, fun t ρ' μ' hI hL hM => ?_⟩
  · obtain ⟨xx, yy, T⟩ := t
    (try dsimp only at hI ⊢)
    obtain ⟨g1, g2, g3, g4⟩ := hI
    refine WSs_cons ?_
    refine' WS_app rfl rfl rfl rfl rfl ?hm ?_
    case hm => unfold poolM; rw [Mu.set_ne _ _ hsa]; exact Mu.set_self ..
    refine WE_CompH [("pool", .ptr a), ("most", .int (moI b)), ("sizes", .tuple [.int w, .int h'])] rfl rfl rfl rfl (.inl rfl) (compRM (σ := Int × Int × List (List Int)) ?_)
    walk_at "go"
    refine WO_get_tuple (v := .int h') (by decide) (by decide) rfl ?_
    walk_at "go"
    refine ⟨h', fun t => poolM (μ.set sm (.list (T.map tabL))) a t.1 t.2.1, fun i rs t => 0 ≤ t.1 ∧ 0 ≤ t.2.1 ∧ rs = t.2.2.map (fun l => .list (iL l)) ∧ t.2.2.length = i ∧ ∀ l ∈ t.2.2, l.length = w, (xx, yy, []), rfl, Nat.le_trans (by assumption) (by decide), rfl, ⟨g1, g2, rfl, rfl, fun _ h => nomatch h⟩, fun i rs t hi hI => ?_, fun rs t hI => ?_⟩
    · obtain ⟨f1, f2, rfl, f4, f5⟩ := hI
      refine WE_CompH [("pool", .ptr a), ("most", .int (moI b))] rfl rfl rfl rfl (.inl rfl) (compRM (σ := Int × Int × List Int) ?_)
      walk_at "go"
      refine WO_get_tuple (v := .int w) (by decide) (by decide) rfl ?_
      walk_at "go"
      refine ⟨w, fun s => poolM (μ.set sm (.list (T.map tabL))) a s.1 s.2.1, fun i rs s => 0 ≤ s.1 ∧ 0 ≤ s.2.1 ∧ rs = iL s.2.2 ∧ s.2.2.length = i, (t.1, t.2.1, []), rfl, Nat.le_trans (by assumption) (by decide), rfl, ⟨f1, f2, rfl, rfl⟩, fun i rs s hi hI => ?_, fun rs s hI => ?_⟩
      · obtain ⟨k1, k2, rfl, k4⟩ := hI
        walk_at "go"
        refine law_next pg hmo.1 hmo.2 k1 k2 fun r x1 y1 hr0 hr1 hx1 hy1 => ?_
        exact ⟨(x1, y1, s.2.2 ++ [r]), rfl, hx1, hy1, by simp [iL], by simp [k4]⟩
      · obtain ⟨k1, k2, rfl, k4⟩ := hI
        refine ⟨(s.1, s.2.1, t.2.2 ++ [s.2.2]), rfl, k1, k2, by simp, by simp [f4], fun l hl => ?_⟩
        rcases List.mem_append.mp hl with hl | hl
        · exact f5 l hl
        · rw [List.mem_singleton] at hl; subst hl; exact k4
    · obtain ⟨x2, y2, R⟩ := t
      (try dsimp only at hI ⊢)
      obtain ⟨f1, f2, rfl, f4, f5⟩ := hI
      refine ⟨T.map tabL, ?_, by simp; lia, ?_⟩
      · unfold poolM; rw [Mu.set_ne _ _ hsa]; exact Mu.set_self ..
      refine WSs_nil ⟨(x2, y2, T ++ [R]), ⟨f1, f2, by simp [g3], fun rows hr => ?_⟩, .of rfl, ?_⟩
      · rcases List.mem_append.mp hr with hr | hr
        · exact g4 rows hr
        · rw [List.mem_singleton] at hr; subst hr; exact ⟨f4, f5⟩
      · refine Mu.le_eq ?_
        unfold poolM
        (try dsimp only); rw [Mu.set_comm (Ne.symm hsa), Mu.set_set, List.map_append]
        rfl
  · obtain ⟨xx, yy, T⟩ := t
    (try dsimp only at hI hL hM)
    obtain ⟨g1, g2, g3, g4⟩ := hI
    refine WSs_weak hL hM ?_
    have eT : T.map tabL = (List.range many).map fun p => tab h' w (fun y x => ((T.getD p []).getD y []).getD x 0) := by
      rw [map_range T [], g3]
      apply List.map_congr_left
      intro p hp
      rw [List.mem_range] at hp
      have hm : T.getD p [] ∈ T := by rw [List.getD_eq_getElem?_getD, List.getElem?_eq_getElem (by lia)]; exact List.getElem_mem _
      exact tabL_eq (g4 _ hm).1 (g4 _ hm).2
    rw [eT]
    refine WSs_frz (a := sm) (l := (List.range many).map fun p => tab h' w (fun y x => ((T.getD p []).getD y []).getD x 0)) (rho12 a n many b W H q L across down w h' (fun p y x => ((T.getD p []).getD y []).getD x 0)) ?_ (by unfold rho12; repeat first | exact trivial | refine ⟨⟨_, rfl, by first | exact Frz.refl _ _ _ | exact Frz.ptr _ _⟩, ?_⟩) ?_
    · unfold poolM; rw [Mu.set_ne _ _ hsa]; exact Mu.set_self ..
    have e9 : ∀ m, (poolM (μ.set sm m) a xx yy).del sm = poolM μ a xx yy := fun m => by unfold poolM; rw [Mu.set_del_ne (Ne.symm hsa), Mu.del_set hsn]
    rw [e9]
    exact h xx yy across down w h' _ g1 g2 ⟨w0, h0, w5, h5, wW, hH'⟩
end
section
variable {c : Cx} {k : Nat} {μ : Mu} {Q : PPost}
noncomputable def rho15 (a : Addr) (n many b W H : Nat) (q : Nat → List Int) (L : List (List Int)) (R : Nat → Nat → Nat → Int) : Rho := [("pool", .ptr a), ("side", .int n), ("many", .int many), ("bits", .int b), ("width", .int W), ("height", .int H), ("most", .int (moI b)), ("frame", frameP n b W H many), ("quant", .list ((List.range many).map fun p => .tuple (iL (q p)))),
  ("first", .list ((List.range many).map fun p => planeP W H (tab H W (fin1 n b (GL (upN W n) (upN H n) L p) (q p))))), ("reference", .list ((List.range many).map fun p => planeP W H (tab H W (R p)))), ("raised", .list ((List.range many).map fun p => tab H W (R p)))]
theorem wide_list (many : Nat) (W : Int) : (List.range many).map (fun _ => PV.int W) = (List.replicate many [PV.int W]).flatten := by
  rw [lm_rep_flat_one]
  apply List.ext_getElem <;> simp
theorem law_12 (pg : Pg c) {a : Addr} {x y : Int} {n many b W H w h' : Nat} {q : Nat → List Int} {L : List (List Int)} {across down : Bool} {S : Nat → Nat → Nat → Int} (D : Dims n many b W H) (sm : Small across down w h' W H)
    (h : ∀ R, WSs c (k + 6) lawS (rho15 a n many b W H q L R) (poolM μ a x y) (lawB 15) Q) : WSs c (k + 6) lawS (rho12 a n many b W H q L across down w h' S) (poolM μ a x y) (lawB 12) Q := by
  have hm2 : many ≤ 2 := by have := D.m; lia
  have hW := D.W
  have hH := D.H
  have w5 := sm.w5
  have h5 := sm.h5
  unfold rho12
  refine WSs_cons ?_
  walk_at "go"
  refine WE_CompH [("sizes", .tuple [.int w, .int h'])] rfl rfl rfl rfl (.inl rfl) (compG (fun p => planeP w h' (tab h' w (S p))) ?_)
  walk_at "go"
  refine ⟨many, _, rfl, Nat.le_trans (by assumption) (by decide), fun p hp => ?_, ?_⟩
  · refine WE_CallN pg.ok rfl (.inl pg.h4) rfl (callee_cls pg.ok pg.k4) rfl ?_
    walk_at "go"
    refine WO_get_tuple (v := .int w) (by decide) (by decide) rfl ?_
    walk_at "go"
    refine WO_get_tuple (v := .int h') (by decide) (by decide) rfl ?_
    walk_at "go"
    refine WE_CompL [] (fun p => p) rfl rfl rfl rfl (.inl rfl) ?_
    walk_at "go"
    refine ⟨_, rfl, len_mr (by assumption) (by decide), fun p hp => ?_, ?_⟩
    · obtain ⟨y, _, rfl⟩ := List.mem_map.mp hp
      walk_at "go"
      refine WO_list (len_mr (by assumption) (by decide)) ⟨rfl, rfl⟩
    rw [List.map_id']
    exact WEs_nil (WO.le (j := 2) (WO_call (plane_ok pg ⟨rfl, rfl⟩)) (by lia))
  walk_at "go"
  refine WO.le (j := 5) (WO_call (expanded_planes_ok pg (by lia) (by lia) (by lia) (by lia) (by lia) sm.W sm.H ?_)) (by lia)
  refine WA_Name rfl (.inl rfl) ?_
  generalize hR : (fun p => expS across down w h' (S p)) = R
  have hR' : ∀ p, expS across down w h' (S p) = R p := fun p => by rw [← hR]
  refine WSs_cons (WS_Assign ?_ rfl rfl rfl)
  refine WE_CompH [("across", .bool across), ("down", .bool down), ("width", .int W), ("height", .int H)] rfl rfl rfl rfl (.inl rfl) (compG (fun p => tab H W (R p)) ?_)
  walk_at "go"
  refine ⟨many, _, rfl, Nat.le_trans (by assumption) (by decide), fun p hp => ?_, ?_⟩
  · walk_at "go"
    refine WO.le (j := 2) (WO_call (reference_ok pg (S := S p) sm.w0 sm.h0 (by lia) (by lia) (by lia) (by lia) sm.W sm.H ?_)) (by lia)
    exact ⟨by rw [hR'], rfl⟩
  refine WA_Name rfl (.inr ⟨rfl, by with_unfolding_all decide⟩) ?_
  simp only [hR']
  refine WSs_weak (ρ' := rho15 a n many b W H q L R) (.of rfl) (.refl _) ?_
  unfold rho15
  refine WSs_cons (WS_If (WT_or (WT_Compare rfl ?_)))
  refine WE_CompH [] rfl rfl rfl rfl (.inl rfl) (compG (fun p => tab H W (R p)) ?_)
  walk_at "go"
  refine ⟨many, _, rfl, Nat.le_trans (by assumption) (by decide), fun p hp => ?_, ?_⟩
  · unfold planeP
    walk_at "go"
    exact ⟨rfl, rfl⟩
  walk_at "go"
  refine WO_same_ne (pdOk_list (k := 7) fun p hp => ?_) ⟨_, rfl, fun _ => ?_, fun e => absurd e (by decide)⟩
  · obtain ⟨i, _, rfl⟩ := List.mem_map.mp hp
    exact pdOk_tab 4
  refine WT_Compare rfl ?_
  refine WE_CompH [] rfl rfl rfl rfl (.inl rfl) (compG (fun p => .int W) ?_)
  walk_at "go"
  refine ⟨many, _, rfl, Nat.le_trans (by assumption) (by decide), fun p hp => ?_, ?_⟩
  · unfold planeP
    walk_at "go"
    exact ⟨rfl, rfl⟩
  walk_at "go"
  refine ⟨by simp, ?_⟩
  walk_at "go"
  refine WO_mul_list (by lia) (by simp; lia) (by lia) ?_
  rw [Int.toNat_natCast, ← wide_list]
  refine WO_same_ne (pdOk_list (k := 7) fun p hp => ?_) ⟨_, rfl, fun e => absurd e (by decide), fun _ => ?_⟩
  · obtain ⟨i, _, rfl⟩ := List.mem_map.mp hp
    rfl
  exact WSs_nil (h R)
noncomputable def rho17 (a : Addr) (n many b W H : Nat) (q : Nat → List Int) (L : List (List Int)) (R : Nat → Nat → Nat → Int) (L' : List (List Int)) : Rho := [("pool", .ptr a), ("side", .int n), ("many", .int many), ("bits", .int b), ("width", .int W), ("height", .int H), ("most", .int (moI b)), ("quant", .list ((List.range many).map fun p => .tuple (iL (q p)))),
  ("first", .list ((List.range many).map fun p => planeP W H (tab H W (fin1 n b (GL (upN W n) (upN H n) L p) (q p))))), ("reference", .list ((List.range many).map fun p => planeP W H (tab H W (R p)))), ("raised", .list ((List.range many).map fun p => tab H W (R p))),
  ("grid", gridP n (upN W n) (upN H n) many (GL (upN W n) (upN H n) L')), ("rows", .dict (dsL (upN W n) (upN H n) L')), ("told", .list ((List.range many).map fun p => planeP W H (tab H W (fun y x => clampF (R p y x + fin2 n (GL (upN W n) (upN H n) L' p) (q p) y x) (moI b)))))]
theorem law_15 (pg : Pg c) {a : Addr} {x y : Int} {n many b W H : Nat} {q : Nat → List Int} {L : List (List Int)} {R : Nat → Nat → Nat → Int} (ha : μ a = none) (D : Dims n many b W H) (qo : QOk n many q) (hx : 0 ≤ x) (hy : 0 ≤ y)
    (h : ∀ x y L', 0 ≤ x → 0 ≤ y → L'.length = many * upN H n * upN W n → (∀ r ∈ L', r.length = n * n) → WSs c (k + 7) lawS (rho17 a n many b W H q L R L') (poolM μ a x y) (lawB 17) Q) : WSs c (k + 7) lawS (rho15 a n many b W H q L R) (poolM μ a x y) (lawB 15) Q := by
  have hm2 : many ≤ 2 := by have := D.m; lia
  have hm0 : 0 < many := by have := D.m; lia
  have hW := D.W
  have hH := D.H
  unfold rho15
  refine WSs_cons ?_
  walk_at "go"
  refine WO.le (j := 6) (WO_call (filled_ok pg D.n (by lia) (by lia) hm0 (by lia) ha hx hy fun L' x y hL hLn hx hy => ?_)) (by lia)
  refine WA_Tuple rfl rfl ?_
  walk_at "ass"
  refine WSs_cons ?_
  walk_at "go"
  refine WO.le (j := 5) (WO_call (next_planes_ok pg (q := q) D.n D.b (by lia) (by lia) (by lia) (GL_len hL hLn) qo.l qo.b ?_)) (by lia)
  refine WA_Name rfl (.inl rfl) ?_
  refine WSs_weak (ρ' := rho17 a n many b W H q L R L') (.of rfl) (.refl _) ?_
  exact h x y L' hx hy hL hLn
theorem law_17 (pg : Pg c) {a : Addr} {x y : Int} {n many b W H : Nat} {q : Nat → List Int} {L L' : List (List Int)} {R : Nat → Nat → Nat → Int} (D : Dims n many b W H) (qo : QOk n many q) (hL : L'.length = many * upN H n * upN W n) (hLn : ∀ r ∈ L', r.length = n * n)
    (h : WSs c (k + 3) lawS (rho17 a n many b W H q L R L') (poolM μ a x y) (lawB 18) Q) : WSs c (k + 3) lawS (rho17 a n many b W H q L R L') (poolM μ a x y) (lawB 17) Q := by
  have hm2 : many ≤ 2 := by have := D.m; lia
  have hm0 : 0 < many := by have := D.m; lia
  have hW := D.W
  have hH := D.H
  have hn2 : n ≤ 2 := n12 D.n
  refine WSs_cons (WS_ForR (σ := Unit) rfl rfl (.inr ⟨rfl, by with_unfolding_all decide⟩) ?_)
  walk_at "go"
  refine ⟨many, fun _ _ => rho17 a n many b W H q L R L', fun _ _ => poolM μ a x y, fun _ _ => True, (), rfl, Nat.le_trans (by assumption) (by decide), trivial, .of rfl, .refl _, fun p t hp _ => ?_, fun t ρ' μ' _ hl hm => WSs_weak hl hm h⟩
  (try dsimp only)
  walk_at "go"
  refine WO_get_list (Int.natCast_nonneg _) (castL hp (by assumption) (by decide)) (get_range hp) ?_
  walk_at "go"
  refine WO.le (j := 2) (WO_call (drawn_ok pg (G := GL (upN W n) (upN H n) L') D.n (by lia) (by lia) (fun y x hy hx => ⟨GL_len hL hLn p y x hp hy hx, ds_get hL hp hy hx⟩) (qo.l p hp) (qo.b p hp) ?_)) (by lia)
  walk_at "go"
  refine WO_get_list (Int.natCast_nonneg _) (castL hp (by assumption) (by decide)) (get_range hp) ?_
  unfold planeP
  walk_at "go"
  refine WE_CompR [("raised", .list ((List.range many).map fun p => tab H W (R p))), ("place", .int p), ("due", tab H W (fin2 n (GL (upN W n) (upN H n) L' p) (q p))), ("most", .int (moI b)), ("width", .int W)]
    (fun y => .list (rowF W (fun x => clampF (R p y x + fin2 n (GL (upN W n) (upN H n) L' p) (q p) y x) (moI b)))) rfl rfl rfl rfl (by first | exact .inl rfl | exact .inr ⟨rfl, by with_unfolding_all decide⟩) ?_
  walk_at "go"
  refine ⟨H, rfl, by lia, fun y hy => ?_, ?_⟩
  · refine WE_CompR [("raised", .list ((List.range many).map fun p => tab H W (R p))), ("place", .int p), ("y", .int y), ("due", tab H W (fin2 n (GL (upN W n) (upN H n) L' p) (q p))), ("most", .int (moI b))]
      (fun x => .int (clampF (R p y x + fin2 n (GL (upN W n) (upN H n) L' p) (q p) y x) (moI b))) rfl rfl rfl rfl (.inl rfl) ?_
    walk_at "go"
    refine ⟨W, rfl, by lia, fun x hx => ?_, rfl, rfl⟩
    walk_at "go"
    refine WO_get_list (Int.natCast_nonneg _) (castL hp (by assumption) (by decide)) (get_range hp) ?_
    unfold tab
    walk_at "go"
    refine WO_get_list (by lia) (by lia) (tab_row hy) ?_
    walk_at "go"
    refine WO_get_list (v := .int (R p y x)) (by lia) (by lia) (rowF_get hx) ?_
    walk_at "go"
    refine WO_get_list (by lia) (by lia) (tab_row hy) ?_
    walk_at "go"
    refine WO_get_list (v := .int (fin2 n (GL (upN W n) (upN H n) L' p) (q p) y x)) (by lia) (by lia) (rowF_get hx) ?_
    walk_at "go"
    exact WO.le (j := 1) (WO_call (held_ok pg.ok pg.F84 ⟨rfl, rfl⟩)) (Nat.le_add_left _ _)
  · refine WO_same_ne (pdOk_tab (S := fun y x => clampF (R p y x + fin2 n (GL (upN W n) (upN H n) L' p) (q p) y x) (moI b)) 5) ⟨_, rfl, fun e => absurd e (by decide), fun _ => ?_⟩
    refine WSs_nil (WSs_nil ⟨(), trivial, ?_, .refl _⟩)
    unfold rho17
    exact .of rfl
theorem law_18 (pg : Pg c) {a : Addr} {x y : Int} {n many b W H : Nat} {q : Nat → List Int} {L L' : List (List Int)} {R : Nat → Nat → Nat → Int} (D : Dims n many b W H) (hL : L'.length = many * upN H n * upN W n)
    (h : WSs c (k + 3) lawS [("pool", .ptr a)] (poolM μ a x y) (lawB 20) Q) : WSs c (k + 3) lawS (rho17 a n many b W H q L R L') (poolM μ a x y) (lawB 18) Q := by
  have hm2 : many ≤ 2 := by have := D.m; lia
  have hW := D.W
  have hH := D.H
  have hA := upN_le (w := W) D.n
  have hDD := upN_le (w := H) D.n
  unfold rho17
  refine WSs_cons (WS_If (WT_or (WT_Compare rfl ?_)))
  refine WE_CompH [] rfl rfl rfl rfl (.inl rfl) (compG (fun p => tab H W (R p)) ?_)
  walk_at "go"
  refine ⟨many, _, rfl, Nat.le_trans (by assumption) (by decide), fun p hp => ?_, ?_⟩
  · unfold planeP
    walk_at "go"
    exact ⟨rfl, rfl⟩
  walk_at "go"
  refine WO_same_ne (pdOk_list (k := 7) fun p hp => ?_) ⟨_, rfl, fun _ => ?_, fun e => absurd e (by decide)⟩
  · obtain ⟨i, _, rfl⟩ := List.mem_map.mp hp
    exact pdOk_tab 4
  refine WT_Compare rfl ?_
  refine WE_CompIf [("grid", gridP n (upN W n) (upN H n) many (GL (upN W n) (upN H n) L')), ("rows", .dict (dsL (upN W n) (upN H n) L'))] rfl rfl rfl rfl (.inl rfl) ?_
  walk_at "go"
  refine ⟨_, fun _ rs m => rs = [] ∧ m = poolM μ a x y, rfl, by simp [dsL]; rw [hL]; have := Nat.mul_le_mul (Nat.mul_le_mul hm2 (Nat.le_trans hDD hH.2)) (Nat.le_trans hA hW.2); lia, ⟨rfl, rfl⟩, fun i p rs m hp hI => ?_, fun rs m hI => ?_⟩
  · obtain ⟨rfl, rfl⟩ := hI
    rw [List.getElem?_map] at hp
    obtain ⟨e, he, rfl⟩ := Option.map_eq_some_iff.mp hp
    unfold dsL at he
    rw [List.getElem?_map] at he
    obtain ⟨j, hj, rfl⟩ := Option.map_eq_some_iff.mp he
    obtain ⟨hlt, rfl⟩ := List.getElem?_eq_some_iff.mp hj
    rw [List.length_range] at hlt
    rw [List.getElem_range]
    have hlt' := hlt
    rw [hL] at hlt'
    generalize upN W n = A at *
    generalize upN H n = E at *
    have hA0 : 0 < A := by rcases Nat.eq_zero_or_pos A with h0 | h0; · subst h0; simp at hlt'
                           · exact h0
    have hE0 : 0 < E := by rcases Nat.eq_zero_or_pos E with h0 | h0; · subst h0; simp at hlt'
                           · exact h0
    have hx : i % A < A := Nat.mod_lt _ hA0
    have hy : i / A % E < E := Nat.mod_lt _ hE0
    have hp' : i / A / E < many := by
      rw [Nat.div_div_eq_div_mul]
      exact Nat.div_lt_of_lt_mul (by rw [Nat.mul_comm A E, Nat.mul_comm]; rw [Nat.mul_assoc] at hlt'; exact hlt')
    have hds := ds_get hL hp' hy hx
    dsimp only [keyE, List.map_cons, List.map_nil]
    refine WT_Compare rfl ?_
    walk_at "go"
    refine WO_get_tuple (v := .int ((i / A / E : Nat) : Int)) (by decide) (by decide) rfl ?_
    walk_at "go"
    refine WO_get_tuple (v := .int ((i % A : Nat) : Int)) (by decide) (by decide) rfl ?_
    walk_at "go"
    refine WO_get_tuple (v := .int ((i / A % E : Nat) : Int)) (by decide) (by decide) rfl ?_
    walk_at "go"
    refine WO.le (j := 1) (WO_call (grid_get_ok pg hp' hx hy (by lia) (by lia) (by lia) ?_)) (Nat.le_add_left _ _)
    walk_at "go"
    refine WO_get_dict (i := [((i / A / E : Nat) : Int), ((i % A : Nat) : Int), ((i / A % E : Nat) : Int)]) hds ?_
    refine WO_same_ne (pdOk_list (k := 7) fun p hp => ?_) ⟨_, rfl, fun e => absurd e (by decide), fun _ => ⟨rfl, rfl⟩⟩
    obtain ⟨i, _, rfl⟩ := List.mem_map.mp hp
    rfl
  obtain ⟨rfl, rfl⟩ := hI
  walk_at "go"
  refine ⟨by simp, ?_⟩
  refine WO_same_ne rfl ⟨_, rfl, fun e => absurd e (by decide), fun _ => ?_⟩
  refine WSs_nil (WSs_cons (WS_If (WT_Compare rfl ?_)))
  refine WE_CompL [] (fun _ => .tuple [.int W, .int H]) rfl rfl rfl rfl (.inl rfl) ?_
  walk_at "go"
  refine WO_add_list (by simp; lia) ?_
  walk_at "go"
  refine WO_add_list (by simp; lia) ?_
  refine ⟨_, rfl, by simp; lia, fun p hp => ?_, ?_⟩
  · have : ∃ T, p = planeP W H T := by
      rcases List.mem_append.mp hp with hp | hp
      · rcases List.mem_append.mp hp with hp | hp
        · obtain ⟨i, _, rfl⟩ := List.mem_map.mp hp; exact ⟨_, rfl⟩
        · obtain ⟨i, _, rfl⟩ := List.mem_map.mp hp; exact ⟨_, rfl⟩
      · obtain ⟨i, _, rfl⟩ := List.mem_map.mp hp; exact ⟨_, rfl⟩
    obtain ⟨T, rfl⟩ := this
    unfold planeP
    walk_at "go"
    exact ⟨by simp, rfl, rfl⟩
  walk_at "go"
  refine ⟨by simp, ?_⟩
  walk_at "go"
  refine ⟨by simp, ?_⟩
  walk_at "go"
  refine WO_mul (.inl (by decide)) ?_
  refine WO_mul_list (by lia) (by simp; lia) (by lia) ?_
  have e9 : (List.replicate ((3 : Int) * (many : Int)).toNat [PV.tuple [.int W, .int H]]).flatten = ((((List.range many).map fun p => planeP W H (tab H W (fin1 n b (GL (upN W n) (upN H n) L p) (q p)))) ++ ((List.range many).map fun p => planeP W H (tab H W (R p)))) ++ ((List.range many).map fun p => planeP W H (tab H W (fun y x => clampF (R p y x + fin2 n (GL (upN W n) (upN H n) L' p) (q p) y x) (moI b))))).map (fun _ => PV.tuple [.int W, .int H]) := by
    rw [lm_rep_flat_one]
    apply List.ext_getElem
    · simp; lia
    · intro i h1 h2; rw [List.getElem_replicate, List.getElem_map]
  rw [e9]
  refine WO_same_ne (pdOk_list (k := 7) fun p hp => ?_) ⟨_, rfl, fun e => absurd e (by decide), fun _ => ?_⟩
  · obtain ⟨i, _, rfl⟩ := List.mem_map.mp hp
    rfl
  refine WSs_nil (WSs_weak ?_ (.refl _) h)
  exact .of rfl
end
section
variable {c : Cx} {k : Nat} {sc : SC} {ρ : Rho} {env : Env} {X fz : Led} {s s' : Shared} {A : Around} {E : Value → Shared → Prop} {outer : List Env}
theorem try_pass {np np2 ap p1 p2 pp hp pos : Pos} {y : Str} {l : List UInt8} {st2 : Stmt} {Q : Flow → Shared → Prop} (pg : Pg c) (sg : Segs c) (O : Oct c env sc X fz ρ outer s) (rm : Room A 3) (hA : A.frames = some (env :: outer)) (hl : l.length ≤ 1000) (hb : badP l = true)
    (hk : sc.scope.names.lookup ("read_expand" : Str) = some .globalImplicit) (hn : sc.scope.names.lookup ("SegmentError" : Str) = some .globalImplicit) (hy : sc.scope.names.lookup y = some .local) (hr : ρ.lookup y = some (.bytes l.toArray)) (hd : (y == ("__debug__" : Str)) = false) (hc : (y == ("__classdict__" : Str)) = false)
    (hs : swapsWith (.Call (.Name "read_expand" np) [.Name y ap] [] p1) none p2.line (env0 sc.scope) = pure false)
    (h : ∀ fz' s', Oct c env sc X fz' ρ outer s' → Led.le fz fz' → Q .next s') :
    wpAny c.M A (exec (.Try [.Expr (.Call (.Name "read_expand" np) [.Name y ap] [] p1) p2, st2] [.ExceptHandler (some (.Name "SegmentError" np2)) none [.Pass pp] hp] [] [] pos) env) Q E s := by
  refine wpAny_Try_except (wpAny_execs_cons (wpAny_Expr (call_raises pg sg O rm hA hl hb hk hy hr hd hc fun e a0 fz' s₁ s' O₁ le hf hsl hg ho => ?_) (by unfold interactive; rw [O.S.fn]; rfl) (by rw [swapsWith_scope, O.S.ok.scope]; exact hs)))
  refine lands pg.ok sg O₁.S O₁.nc hn hA O₁.ef O₁.frames.1 hf hsl hg ho fun h' E' S' hsl' => ?_
  exact wpAny_execs_cons (wpAny_Pass (wpAny_execs_nil (h fz' _ (O₁.caught S' hsl') le)))

noncomputable def addI (X : Led) (I : Addr) (o : Obj) : Led := fun b => if b = I then some o else X b
theorem addI_ne {X : Led} {I b : Addr} {o : Obj} (h : b ≠ I) : Mine.addI X I o b = X b := if_neg h
theorem le_addI {X : Led} {I : Addr} {o : Obj} (h : X I = none) : Led.le X (Mine.addI X I o) := fun b p e => (addI_ne (nes h e)).trans e
theorem Oct.own (O : Oct c env sc X fz ρ outer s) : sc.own = [] := List.isEmpty_iff.mp (Bool.and_eq_true_iff.mp O.nc).2
theorem Oct.addI {I : Addr} {o : Obj} (O : Oct c env sc X fz ρ outer s) (ho : s.heap.get? I = some o) (h1 : X I = none) (h2 : fz I = none) (h3 : I ≠ env.locals) (h4 : I ∉ frs outer) : Oct c env sc (Mine.addI X I o) fz ρ outer s :=
  have at' : ∀ {P : Obj → Prop} {b p}, Mine.addI X I o b = some p → (b = I → P o) → (X b = some p → P p) → P p := fun {P b p} e h1 h2 => by
    by_cases hb : b = I
    · exact Option.some.inj (((if_pos hb : Mine.addI X I o b = some o).symm.trans e)) ▸ h1 hb
    · exact h2 ((addI_ne hb).symm.trans e)
  ⟨O.S.moreX (le_addI h1) (fun b p e => at' (P := fun p => s.heap.get? b = some p) e (fun q => q ▸ ho) (O.S.x.ex b p)) ((addI_ne (Ne.symm h3)).trans O.S.e.free.1) (fun x a hx => nomatch (O.own ▸ hx : x ∈ ([] : List Str))) (fun a mo e => nomatch e)
    (fun b p e => at' (P := fun _ => fz b = none) e (fun q => q ▸ h2) (O.S.x.xf b p)), O.F, fun b hm => ⟨(addI_ne (X := X) (o := o) fun q : b = I => h4 (q ▸ hm)).trans (O.fr b hm).1, (O.fr b hm).2⟩, O.nc, O.ef⟩
theorem Oct.less {X' fz' : Led} {ρ' : Rho} (O : Oct c env sc X fz ρ outer s) (O' : Oct c env sc X' fz' ρ' outer s') (le : Led.le X X') : Oct c env sc X fz' ρ' outer s' :=
  ⟨O.S.lessX O'.S le, O'.F, fun b hm => ⟨(O.fr b hm).1, (O'.fr b hm).2⟩, O.nc, O.ef⟩
inductive OInv (c : Cx) (env : Env) (sc : SC) (X fz₁ : Led) (ρk : Rho) (outer : List Env) (n : Nat) (I : Addr) (St : Nat → Heap → Prop) (m : Nat) (s' : Shared) : Prop
  | mk (i : Nat) (ρ' : Rho) (fz' : Led) : m = n - i → i ≤ n → Rho.Le ρk ρ' → Led.le fz₁ fz' → Oct c env sc X fz' ρ' outer s' → fz' I = none → St i s'.heap → OInv c env sc X fz₁ ρk outer n I St m s'
theorem for_oct {x : Str} {px pos : Pos} {iter : Expr} {body : List Stmt} {its : List PV} {ρk : Rho} {Q : Flow → Shared → Prop} (O : Oct c env sc X fz ρ outer s) (rm : Room A k) (hfs : notSet iter = true) (hx : sc.scope.names.lookup x = some .local) (hxk : ∀ p ∈ ρk, p.1 ≠ x) (hle : Rho.Le ρk ρ)
    (hi : WE c k sc ρ μ0 iter (fun v m => v = .tuple its ∧ m = μ0))
    (step : ∀ p X' fz' ρ' s' Q' E', p ∈ its → Oct c env sc X' fz' ρ' outer s' → ρ'.lookup x = some p → Rho.Le ρk ρ' → (∀ fz'' s'', Oct c env sc X' fz'' ρ' outer s'' → Led.le fz' fz'' → Q' .next s'') → wpAny c.M A (execs body env) Q' E' s')
    (fin : ∀ fz' ρ' s', Oct c env sc X fz' ρ' outer s' → Rho.Le ρk ρ' → Q .next s') : wpAny c.M A (exec (.For (.Name x px) iter body [] pos) env) Q E s := by
  refine wpAny_For (hi.use O.up rm fun v pv m fz₁ s₁ h₁ rv l1 S₁ => ?_) ?_
  · obtain ⟨rfl, rfl⟩ := h₁
    have O₁ := O.down S₁
    refine pyIter_It (items := its) rfl rv S₁ rm.1 fun fp n Pv St o I hI T hst _ hIf _ => ?_
    have F : Far env sc.own X I := O₁.S.far (Nat.le_of_eq hI)
    have O₂ : Oct c env sc X fz₁ ρ outer { s₁ with heap := s₁.heap.push o } := ⟨O₁.S.push _ _, O₁.F.of_keeps fun b p e _ => ⟨p, Heap.get?_push_of_some _ e, rfl⟩, O₁.fr, O₁.nc, O₁.ef⟩
    have hIo : I ∉ frs outer := fun hm => (O₁.F.mem hm).elim fun _ p => p.elim fun o' p => Nat.lt_irrefl _ (hI ▸ Heap.lt_size p.1)
    refine codeAny_forLoop (OInv c env sc X fz₁ ρk outer n I St) ?_ n ⟨0, ρ, fz₁, rfl, Nat.zero_le _, hle, .refl _, O₂, hIf, hst⟩
    rintro m s' ⟨i, ρ', fz', hm0, hin, hρ, le, O', hf', hst'⟩
    have keepF : ∀ {h' : Heap}, (∀ b o, b ≠ I → s'.heap.get? b = some o → h'.get? b = some o) → ∀ l, (∀ b ∈ frs l, b ∈ frs outer) → s'.heap.FunFrames c.h₀ l → h'.FunFrames c.h₀ l := fun {h'} hk l => by
      induction l with
      | nil => intro _ _; trivial
      | cons e l ih =>
        intro hsub ⟨h1, ⟨L, o, h2, h3, h4, h5⟩, h6⟩
        have hf : frs (e :: l) = L :: frs l := List.filterMap_cons_some h2
        exact ⟨h1, ⟨L, o, h2, h3, hk _ _ (fun q => hIo (q ▸ hsub _ (hf ▸ .head _))) h4, h5⟩, ih (fun b hb => hsub b (hf ▸ .tail _ hb)) h6⟩
    have hxq : ∀ {p : PV}, Rho.Le ρk (ρ'.set x p) := fun q hq => by rw [lookup_set, if_neg (hxk q hq)]; exact hρ q hq
    by_cases hlt : i < n
    · refine T.item hlt hst' O'.S le F hf' rfl fun v p h' tk oI hp rp S₃ hst'' hk hoI => ?_
      have O₃ : Oct c env sc X fz' ρ' outer { s' with heap := h', toks := tk } := ⟨S₃, keepF hk _ (fun _ h => h) O'.F, O'.fr, O'.nc, O'.ef⟩
      have O₄ := O₃.addI hoI F.x hf' F.l hIo
      refine WA_Name_use (k := k) hx (.inl rfl) O₄.up rm rp fun fz₄ s₄ l4 S₄ => ?_
      refine step p _ fz₄ _ s₄ _ _ (List.mem_of_getElem? hp) (O₄.down S₄) (by rw [lookup_set, if_pos rfl]) hxq fun fz₅ s₅ O₆ l5 => ?_
      have hII : Mine.addI X I oI I = some oI := if_pos rfl
      exact ⟨n - (i + 1), hm0 ▸ Nat.sub_lt_sub_left hlt (Nat.lt_succ_self i), i + 1, _, fz₅, rfl, hlt, hxq, (le.trans l4).trans l5, O₃.less O₆ (le_addI F.x), O₆.S.x.xf _ _ hII, T.stay hst'' S₃.x.ef le hoI hII (l4.trans l5) O₆.S.x⟩
    · exact T.done hin hlt hst' O'.S F hf' rfl fun h' tk _ S₃ hk => wpAny_execs_nil (fin fz' ρ' _ ⟨S₃, keepF hk _ (fun _ h => h) O'.F, O'.fr, O'.nc, O'.ef⟩ hρ)
  · intro x
    have : foldedSetIterable iter env x = pure x := by
      cases iter <;> first | rfl | cases hfs
    exact this
end
section
variable {c : Cx} {k : Nat} {sc : SC} {ρ : Rho} {env : Env} {X fz : Led} {s s' : Shared} {A : Around} {E : Value → Shared → Prop} {outer : List Env}
noncomputable abbrev octS : SC := scD (stAt 85)
theorem octet_bytes {o : Nat} (ho : o < 256) : ((([o.toUInt8] : List UInt8).getD 0 0).toNat) = o := (show ∀ o : Fin 256, ((([o.val.toUInt8] : List UInt8).getD 0 0).toNat) = o.val by decide +kernel) ⟨o, ho⟩
theorem bad_iff {o : Nat} (ho : o < 256) : badP [o.toUInt8] = !([(0 : Int), 1, 16, 17].contains (o : Int)) := (show ∀ o : Fin 256, badP [o.val.toUInt8] = !([(0 : Int), 1, 16, 17].contains (o.val : Int)) by decide +kernel) ⟨o, ho⟩
theorem good_cases {o : Nat} (ho : o < 256) : badP [o.toUInt8] = false → o = 0 ∨ o = 1 ∨ o = 16 ∨ o = 17 := (show ∀ o : Fin 256, badP [o.val.toUInt8] = false → o.val = 0 ∨ o.val = 1 ∨ o.val = 16 ∨ o.val = 17 by decide +kernel) ⟨o, ho⟩
theorem octet_end (pg : Pg c) {o : Nat} (hb : o = 0 ∨ o = 1 ∨ o = 16 ∨ o = 17) {Q : PPost} (h : ∀ ρ' m, Q (.ret (.bool true)) ρ' m) :
    WSs c 3 octS [("octet", .int o), ("payload", .bytes (byteArr [(o : Int)])), ("across", .bool (((o / 16 : Nat) : Int) == 1)), ("down", .bool (((o % 16 : Nat) : Int) == 1))] μ0 ((fBody (stAt 85)).drop 3) Q := by
  have e1 : (((o / 16 : Nat) : Int) == 1) = decide ((o : Int) > 15) := by rcases hb with rfl | rfl | rfl | rfl <;> rfl
  have e2 : (((o % 16 : Nat) : Int) == 1) = ((o : Int).fmod 2 == 1) := by rcases hb with rfl | rfl | rfl | rfl <;> rfl
  have e3 : byteArr [16 * (if (((o / 16 : Nat) : Int) == 1) = true then 1 else 0) + (if (((o % 16 : Nat) : Int) == 1) = true then 1 else 0)] = byteArr [(o : Int)] := by rcases hb with rfl | rfl | rfl | rfl <;> rfl
  have e4 : [(0 : Int), 1, 16, 17].contains (o : Int) = true := by rcases hb with rfl | rfl | rfl | rfl <;> rfl
  refine WSs_cons (WS_Return (WE_AndC (WE_Compare rfl (WE_Tuple ?_))))
  walk_at "go"
  refine ⟨by simp, WE_Tuple ?_⟩
  walk_at "go"
  refine WO_fmod (by decide) ?_
  walk_at "go"
  refine ⟨by simp, ?_⟩
  rw [← e1, ← e2]
  refine WO_same_eq rfl ⟨_, rfl, fun _ => ?_, fun e => nomatch e⟩
  refine WE_AndC (WE_Compare rfl ?_)
  walk_at "go"
  refine ⟨by simp, ?_⟩
  refine WO_in_ints (l := [0, 1, 16, 17]) ⟨_, rfl, fun _ => ?_, fun e => by rw [e4] at e; cases e⟩
  refine WE_And1 (WE_Compare rfl ?_)
  walk_at "go"
  refine WO.le (j := 1) (WO_call (write_ok pg ?_)) (by decide)
  walk_at "go"
  rw [e3]
  exact WO_eqB (h _ _)
theorem eval_notIn {o : Nat} {n0 n1 n2 n3 tn : Nat} {p0 p1 p2 p3 np tp cp : Pos} {Q : Value → Shared → Prop} (S : Sim c env sc X fz ρ μ0 s) (ru : A.units + 64 < cLine) (hx : sc.scope.names.lookup ("octet" : Str) = some .local) (hr : ρ.lookup ("octet" : Str) = some (.int o))
    (hno : [(0 : Int), 1, 16, 17].contains (o : Int) = false) (h : ∀ fz' s', Sim c env sc X fz' ρ μ0 s' → Q (.bool true) s') :
    wpAny c.M A (eval (.Compare (.Name "octet" np) [.NotIn] [.Tuple [.Constant (.int 0) n0 p0, .Constant (.int 1) n1 p1, .Constant (.int 16) n2 p2, .Constant (.int 17) n3 p3] tn tp] cp) env) Q E s := by
  obtain ⟨m, hn, hm⟩ := S.e.ns
  obtain ⟨r, e, rr⟩ := hm "octet" _ (S.kind hx) hr
  refine wpAny_Compare1 (wpAny_Name (wpAny_loadName_local S.fn (S.kind hx) hn e ?_) rfl) rfl
  refine Tuple_ (args_cons (wpAny_Constant_int (args_cons (wpAny_Constant_int (args_cons (wpAny_Constant_int (args_cons (wpAny_Constant_int (args_nil ?_)) rfl)) rfl)) rfl)) rfl)
  refine wpAny_newObj_type ?_ (by show 4 ≤ sizeLine; rw [sizeLine_eq]; decide)
  generalize ht : s.toks + 1 + 1 + 1 + 1 = tk
  have S₁ : Sim c env sc X (fz.add s.heap.objs.size (tO [.int 0 s.toks, .int 1 (s.toks + 1), .int 16 (s.toks + 1 + 1), .int 17 (s.toks + 1 + 1 + 1)] 0)) ρ μ0 { s with heap := s.heap.push (tO [.int 0 s.toks, .int 1 (s.toks + 1), .int 16 (s.toks + 1 + 1), .int 17 (s.toks + 1 + 1 + 1)] 0), toks := tk } := S.pushF _ _ rfl
  have hle := Led.le_add (f := fz) (a := s.heap.objs.size) (o := tO [.int 0 s.toks, .int 1 (s.toks + 1), .int 16 (s.toks + 1 + 1), .int 17 (s.toks + 1 + 1 + 1)] 0) (Led.fresh S.x.ef (Nat.le_refl _))
  have r2 : R c (fz.add s.heap.objs.size (tO [.int 0 s.toks, .int 1 (s.toks + 1), .int 16 (s.toks + 1 + 1), .int 17 (s.toks + 1 + 1 + 1)] 0)) (.ref s.heap.objs.size) (.tuple (([0, 1, 16, 17] : List Int).map .int)) :=
    .tuple (Led.add_self ..) (.cons (.int _ _) (.cons (.int _ _) (.cons (.int _ _) (.cons (.int _ _) .nil))))
  have ok : pdOk 1 (.tuple (([0, 1, 16, 17] : List Int).map .int)) = true := rfl
  obtain ⟨as, q1⟩ := R.reads S₁.x.ef 1 r2 ok
  obtain ⟨bs, q2⟩ := R.reads (d := .int o) S₁.x.ef 0 (rr.mono hle) rfl
  rw [show pdP (.tuple (([0, 1, 16, 17] : List Int).map .int)) = .tuple (pdPs (([0, 1, 16, 17] : List Int).map .int)) from rfl] at q1
  rw [show pdP (.int o) = .int o from rfl] at q2
  refine PySem.SeqAt.notIn_tuple_reads q1 q2 ?_ rfl ?_ ?_
  · exact (pd_lay 1 _ ok).1
  · have h3 : PyData.depth (.int o) = 0 := rfl
    have h2 : min (PyData.depthAll (pdPs (([0, 1, 16, 17] : List Int).map PV.int))) (PyData.depth (.int o)) ≤ 0 := by rw [h3]; exact Nat.min_le_right _ _
    lia
  · rw [anyInt_iff, hno]
    exact h _ _ S₁
theorem Room.mark64 {A : Around} {k : Nat} {e : Value} (h : Room A k) : (A.mark (some e)).units + 64 < cLine := h.u64
theorem octet_try (pg : Pg c) (sg : Segs c) {o : Nat} (ho : o < 256) {Q : Flow → Shared → Prop} (O : Oct c env octS X fz ρ outer s) (rm : Room A 3) (hA : A.frames = some (env :: outer)) (hr1 : ρ.lookup ("octet" : Str) = some (.int o)) (hr2 : ρ.lookup ("payload" : Str) = some (.bytes (byteArr [(o : Int)])))
    (hfin : ∀ s', (∀ b p, c.h₀.get? b = some p → s'.heap.get? b = some p) → s'.gens = c.g → s'.os = c.os → Q (.ret (.bool true)) s') : wpAny c.M A (execs ((fBody (stAt 85)).drop 2) env) Q E s := by
  have eB : byteArr [(o : Int)] = ([o.toUInt8] : List UInt8).toArray := by unfold byteArr; simp
  cases hb : badP [o.toUInt8] with
  | true =>
    refine wpAny_execs_cons (wpAny_Try_except (wpAny_execs_cons ?_))
    refine wpAny_Assign_stores (call_raises pg sg O rm hA (by simp) hb rfl rfl (by rw [hr2, eB]) rfl rfl fun e a0 fz' s₁ s' O₁ le hf hsl hg hos => ?_) ?_ ?_
    · refine lands pg.ok sg O₁.S O₁.nc rfl hA O₁.ef O₁.frames.1 hf hsl hg hos fun h' E' S' hsl' => ?_
      refine wpAny_execs_cons (wpAny_Return_some (eval_notIn S' rm.mark64 rfl hr1 (by rw [bad_iff ho] at hb; simpa using hb) fun fz'' s'' S'' => ?_))
      exact hfin s'' S''.base S''.x.g S''.x.os
    · rw [swapsSole_scope, O.S.ok.scope]; rfl
    · rw [swapped_scope, O.S.ok.scope]; rfl
  | false =>
    have hg := good_cases ho hb
    refine wpAny_execs_cons (wpAny_Try_except (wpAny_execs_cons ?_))
    refine WS.use (k := 3) (Q₁ := fun f ρ' m => f = PF.next ∧ ρ' = (ρ.set "across" (.bool (((o / 16 : Nat) : Int) == 1))).set "down" (.bool (((o % 16 : Nat) : Int) == 1)) ∧ m = μ0) ?_ O.up rm fun f pf ρ' μ' fz' s' hq rf l1 S' => ?_
    · refine WS_Assign (WE_CallN pg.ok rfl pg.g66 rfl (callee_fn pg.F66) rfl (WEs_cons rfl (WE_Name rfl hr2 (WEs_nil ?_) (.inl rfl) rfl rfl))) rfl rfl rfl
      rw [eB]
      refine WO.le (j := 1) (WO_call (read_ok pg (by simp) hb ?_)) (by decide)
      rw [octet_bytes ho]
      refine WA_Tuple rfl rfl ?_
      walk_at "ass"
      exact ⟨rfl, rfl, rfl⟩
    · obtain ⟨rfl, rfl, rfl⟩ := hq
      (first | obtain rfl := rf.inv | obtain ⟨_, rfl⟩ := rf.inv | obtain ⟨_, _, _, rfl, _, _⟩ := rf.inv | obtain ⟨_, _, rfl, _⟩ := rf.inv | obtain ⟨_, rfl, _⟩ := rf.inv | obtain ⟨_, _, _, rfl, _, _, _, _, _⟩ := rf.inv | obtain ⟨_, _, _, _, rfl, _, _, _, _⟩ := rf.inv | obtain ⟨_, _, _, _, rfl, _, _, _, _, _⟩ := rf.inv | cases rf)
      refine wpAny_execs_nil (wpAny_execs_nil ?_)
      have O' := O.down S'
      refine (octet_end (Q := fun f _ _ => f = .ret (.bool true)) pg hg fun _ _ => rfl).weak (Rho.Le.le ?_) (fun _ _ e => e) |>.use O'.up rm fun f pf ρ'' μ'' fz'' s'' hq rf l2 S'' => ?_
      · exact fun p hp => by rcases List.mem_cons.mp hp with rfl | hp
                             · exact hr1
                             · rcases List.mem_cons.mp hp with rfl | hp
                               · exact hr2
                               · exact (Rho.Le.of rfl : Rho.Le [("across", .bool ((o : Int) / 16 == 1)), ("down", .bool ((o : Int) % 16 == 1))] _) p hp
      · subst hq
        cases rf with
        | ret r => cases r; exact hfin s'' S''.base S''.x.g S''.x.os
theorem octet_body (pg : Pg c) (sg : Segs c) {o : Nat} (ho : o < 256) {Q : Flow → Shared → Prop} (O : Oct c env octS X fz [("octet", .int o)] outer s) (rm : Room A 3) (hA : A.frames = some (env :: outer))
    (hfin : ∀ s', (∀ b p, c.h₀.get? b = some p → s'.heap.get? b = some p) → s'.gens = c.g → s'.os = c.os → Q (.ret (.bool true)) s') : wpAny c.M A (execs (fBody (stAt 85)) env) Q E s := by
  have eB : byteArr [(o : Int)] = ([o.toUInt8] : List UInt8).toArray := by unfold byteArr; simp
  have eB2 : byteArr [(o : Int)] ++ ([0] : List UInt8).toArray = ([o.toUInt8, 0] : List UInt8).toArray := by rw [eB]; rfl
  refine wpAny_execs_cons (WS.use (k := 3) (Q₁ := fun f ρ' m => f = PF.next ∧ ρ' = Rho.set [("octet", .int o)] "payload" (.bytes (byteArr [(o : Int)])) ∧ m = μ0) ?_ O.up rm fun f pf ρ' μ' fz' s' hq rf l1 S' => ?_)
  · walk_at "go"
    refine ⟨by simp, ?_⟩
    walk_at "go"
    refine WO_mkB (ns := [(o : Int)]) (fun n hn => by rw [List.mem_singleton] at hn; lia) (by simp) ?_
    refine WA_Name rfl (.inl rfl) ⟨rfl, rfl, rfl⟩
  obtain ⟨rfl, rfl, rfl⟩ := hq
  (first | obtain rfl := rf.inv | obtain ⟨_, rfl⟩ := rf.inv | obtain ⟨_, _, _, rfl, _, _⟩ := rf.inv | obtain ⟨_, _, rfl, _⟩ := rf.inv | obtain ⟨_, rfl, _⟩ := rf.inv | obtain ⟨_, _, _, rfl, _, _, _, _, _⟩ := rf.inv | obtain ⟨_, _, _, _, rfl, _, _, _, _⟩ := rf.inv | obtain ⟨_, _, _, _, rfl, _, _, _, _, _⟩ := rf.inv | cases rf)
  have O₁ := O.down S'
  refine wpAny_execs_cons (for_oct (k := 3) (its := [.bytes ([] : List UInt8).toArray, .bytes ([o.toUInt8, 0] : List UInt8).toArray]) (ρk := [("payload", .bytes (byteArr [(o : Int)])), ("octet", .int o)]) O₁ rm rfl rfl (fun p hp => ?_) (.of rfl) ?_ (fun p X' fz' ρ' s' Q' E' hp O' hx hle hnext => ?_) fun fz' ρ' s' O' hle => ?_)
  · simp only [List.mem_cons, List.not_mem_nil, or_false] at hp
    rcases hp with rfl | rfl
    · exact (by decide : ("payload" : Str) ≠ "wrong")
    · exact (by decide : ("octet" : Str) ≠ "wrong")
  · refine WE_Tuple (WEs_cons rfl (WE_bytes (WEs_cons rfl (WE_BinOp ?_))))
    walk_at "go"
    refine WE_bytes (WO_addB (by simp [byteArr]) ?_)
    rw [eB2]
    exact WEs_nil ⟨by simp, rfl, rfl⟩
  · have hl : ∃ l : List UInt8, p = .bytes l.toArray ∧ l.length ≤ 1000 ∧ badP l = true := by
      simp only [List.mem_cons, List.not_mem_nil, or_false] at hp
      rcases hp with rfl | rfl
      · exact ⟨[], rfl, by decide, rfl⟩
      · exact ⟨[o.toUInt8, 0], rfl, by simp, rfl⟩
    obtain ⟨l, rfl, hl1, hl2⟩ := hl
    exact wpAny_execs_cons (try_pass pg sg O' rm hA hl1 hl2 rfl rfl rfl hx rfl rfl rfl fun fz'' s'' O'' le => wpAny_execs_nil (hnext fz'' s'' O'' le))
  · exact octet_try pg sg ho O' rm hA (hle ("octet", .int o) (by simp)) (hle ("payload", .bytes (byteArr [(o : Int)])) (by simp)) hfin
end
theorem execs_append (l r : List Stmt) (env : Env) : execs (l ++ r) env = (execs l env >>= fun f => match f with | .next => execs r env | f => pure f) := by
  induction l with
  | nil => rw [List.nil_append, arm_execs_nil, pure_bind]
  | cons st l ih =>
    rw [List.cons_append, arm_execs_cons, arm_execs_cons, bind_assoc]
    congr 1
    funext f
    cases f <;> first | exact ih | rw [pure_bind]
section
variable {c : Cx} {k : Nat} {sc : SC} {ρ : Rho} {μ : Mu} {env : Env} {X fz : Led} {s s' : Shared} {A : Around} {E : Value → Shared → Prop} {outer : List Env}
theorem law_all (pg : Pg c) {sa : Addr} {vs : List Value} {l : List Int} (hs : c.h₀.IsList sa vs.toArray) (hv : IntsAre vs l) (hl : l.length ≤ 1000) {Q : PPost}
    (h : ∀ a x y, 0 ≤ x → 0 ≤ y → Q .next [("pool", .ptr a)] (poolM μ a x y)) : WSs c (k + 7) lawS [("script", .raw (.ref sa))] μ (lawB 0) Q := by
  refine law_0 (k := k + 6) pg hs hv hl fun a x y n many b W H ha hx hy D => ?_
  refine law_3 (k := k + 5) pg D hx hy fun x y q hx hy qo => ?_
  refine law_5 (k := k) pg ha D qo hx hy fun x y L hx hy hL hLn => ?_
  refine law_7 (k := k + 4) pg D qo hL hLn ?_
  refine law_8 (k := k + 4) pg ha D hx hy fun x y across down w h' S hx hy sm => ?_
  refine law_12 (k := k + 1) pg D sm fun R => ?_
  refine law_15 (k := k) pg ha D qo hx hy fun x y L' hx hy hL' hLn' => ?_
  refine law_17 (k := k + 4) pg D qo hL' hLn' ?_
  refine law_18 (k := k + 4) pg D hL' ?_
  exact WSs_nil (h a x y hx hy)
theorem octet_call (pg : Pg c) (sg : Segs c) {o : Nat} (ho : o < 256) {t : Tok} {RR : Result → Shared → Prop} (rm : Room A 4) (hA : A.frames = some outer) (S : SimX c X fz μ0 s) (F : s.heap.FunFrames c.h₀ outer)
    (hfr : ∀ b ∈ frs outer, X b = none ∧ fz b = none) (K : ∀ s', (∀ b p, c.h₀.get? b = some p → s'.heap.get? b = some p) → s'.gens = c.g → s'.os = c.os → RR (.ok (.ret (.bool true))) s') :
    codeAny c.M A (.call (.ref 805) ⟨[.int o t], []⟩) RR s := by
  refine call_def pg.F85 pg.ok.lim rfl rfl rm (.cons (.int _ _) .nil) S fun env s₁ hef hL hkp S₁ => ?_
  have hnc : noCells octS = true := by with_unfolding_all rfl
  have hown : octS.own = [] := by
    unfold noCells at hnc
    rw [Bool.and_eq_true] at hnc
    exact List.isEmpty_iff.mp hnc.2
  have le : Led.le X (rest s.heap fz μ0) := S.le_rest
  have nn : ∀ {a : Addr}, rest s.heap fz μ0 a = none → X a = none := fun {a} e => by cases q : X a with | none => rfl | some o => rw [le _ _ q] at e; cases e
  have S₂ : Sim c env octS X fz [("octet", .int o)] μ0 s₁ :=
    ⟨S₁.x.lessX le S.base, ⟨S₁.e.ns, ⟨nn S₁.e.free.1, S₁.e.free.2⟩, S₁.e.cells, fun x e _ => (kind_not S₁ hnc e).elim, fun x e => (by rw [hown] at e; exact nomatch e), S₁.e.inj, S₁.e.kind⟩, S₁.ok⟩
  have O : Oct c env octS X fz [("octet", .int o)] outer s₁ := by
    refine ⟨S₂, F.of_keeps fun b p e _ => ⟨p, hkp b p e, rfl⟩, fun b hb => ⟨(hfr b hb).1, (hfr b hb).2, ?_⟩, hnc, hef⟩
    obtain ⟨_, p, hp, _⟩ := F.mem hb
    rw [hL]; exact Nat.ne_of_lt (Heap.lt_size hp)
  exact octet_body pg sg ho O rm.deeper (Around.frames_deeper hA) fun s' h1 h2 h3 => K s' h1 h2 h3
end
set_option maxHeartbeats 4000000
section
variable {c : Cx}
theorem room_caller : Room callerA 12 := ⟨rfl, by decide +kernel, by decide +kernel⟩
theorem law_body_eq : fBody (stAt 86) = lawB 0 ++ (fBody (stAt 86)).drop 20 := (List.take_append_drop 20 _).symm
theorem law_last (pg : Pg c) (sg : Segs c) {a : Addr} {x y : Int} {env : Env} {X fz : Led} {s : Shared} {A : Around} {Q : Flow → Shared → Prop} {E : Value → Shared → Prop} (S : Sim c env lawS X fz [("pool", .ptr a)] (poolM μ0 a x y) s) (rm : Room A 5) (hx : 0 ≤ x) (hy : 0 ≤ y)
    (hA : A.frames = some [env]) (hef : env.frame = some env.locals) (hL : c.h₀.get? env.locals = none)
    (K : ∀ s', (∀ b p, c.h₀.get? b = some p → s'.heap.get? b = some p) → s'.gens = c.g → s'.os = c.os → Q (.ret (.bool true)) s') : wpAny c.M A (execs ((fBody (stAt 86)).drop 20) env) Q E s := by
  refine wpAny_execs_cons (wpAny_Return_some (Call_ ?_))
  refine (WE_Glob (k := 5) (Q := fun w μ' => w = .raw (.ref 805) ∧ μ' = poolM μ0 a x y) pg.ok rfl pg.g85 rfl ⟨rfl, rfl⟩).use S rm fun w pw μ' fz' s' h₁ rw' l1 S' => ?_
  obtain ⟨rfl, rfl⟩ := h₁
  (first | obtain rfl := rw'.inv | obtain ⟨_, rfl⟩ := rw'.inv | obtain ⟨_, _, _, rfl, _, _⟩ := rw'.inv | obtain ⟨_, _, rfl, _⟩ := rw'.inv | obtain ⟨_, rfl, _⟩ := rw'.inv | obtain ⟨_, _, _, rfl, _, _, _, _, _⟩ := rw'.inv | obtain ⟨_, _, _, _, rfl, _, _, _, _⟩ := rw'.inv | obtain ⟨_, _, _, _, rfl, _, _, _, _, _⟩ := rw'.inv | cases rw')
  refine callWith_any rfl (callee_fn pg.F85) (Q' := fun ps m => ∃ o : Nat, o < 256 ∧ ps = [.int o]) (k := 5) ?_ S' rm fun vs ps μ₂ fz₂ s₂ h₂ ra l2 S₂ => ?_
  · refine WEs_cons rfl ?_
    walk_at "go"
    refine law_next pg (by decide) (by decide) hx hy fun r1 x y hr0 hr1 hx hy => ?_
    walk_at "go"
    refine ⟨by simp, ?_⟩
    walk_at "go"
    refine law_next pg (by decide) (by decide) hx hy fun r2 x y hr2 hr3 hx hy => ?_
    obtain ⟨b, hb1, hb⟩ : ∃ b : Nat, [PV.int 0, .int 1, .int 16, .int 17, .int r1][r2.toNat]? = some (.int b) ∧ b < 256 := by
      have : r2 = 0 ∨ r2 = 1 ∨ r2 = 2 ∨ r2 = 3 ∨ r2 = 4 := by lia
      rcases this with rfl | rfl | rfl | rfl | rfl
      · exact ⟨0, rfl, by decide⟩
      · exact ⟨1, rfl, by decide⟩
      · exact ⟨16, rfl, by decide⟩
      · exact ⟨17, rfl, by decide⟩
      · exact ⟨r1.toNat, by show some (PV.int r1) = _; congr 2; lia, by lia⟩
    walk_at "go"
    refine WO_get_list (v := .int b) (by lia) (by lia) hb1 ?_
    exact WEs_nil ⟨b, hb, rfl⟩
  · obtain ⟨o, ho, rfl⟩ := h₂
    obtain ⟨v, rfl, r1⟩ := ra.inv1
    (first | obtain rfl := r1.inv | obtain ⟨_, rfl⟩ := r1.inv | obtain ⟨_, _, _, rfl, _, _⟩ := r1.inv | obtain ⟨_, _, rfl, _⟩ := r1.inv | obtain ⟨_, rfl, _⟩ := r1.inv | obtain ⟨_, _, _, rfl, _, _, _, _, _⟩ := r1.inv | obtain ⟨_, _, _, _, rfl, _, _, _, _⟩ := r1.inv | obtain ⟨_, _, _, _, rfl, _, _, _, _, _⟩ := r1.inv | cases r1)
    have S0 : SimX c (fun b => c.h₀.get? b) (fun _ => none) μ0 s₂ := ⟨S₂.x.g, S₂.x.os, fun b o e => e, S₂.base, (fun b o e => nomatch e), (fun a mo e => nomatch e), fun b o e => rfl⟩
    obtain ⟨m, hn, _⟩ := S₂.e.ns
    refine wpAny_call (octet_call (outer := [env]) pg sg ho (rm.le (by decide)) hA S0 (.cons (by rw [S₂.fn]; decide) hef hn hL trivial) (fun b hb => ?_) K)
    have : b = env.locals := by
      unfold frs at hb
      rw [List.filterMap_cons, hef] at hb
      simpa using hb
    subst this
    exact ⟨hL, rfl⟩
theorem law_run (pg : Pg c) (sg : Segs c) {sa fa : Addr} {vs : List Value} {l : List Int} (F : Fn c fa ["script"] (fBody (stAt 86)) (fScope (stAt 86))) (hs : c.h₀.IsList sa vs.toArray) (hv : IntsAre vs l) (hl : l.length ≤ 1000)
    {s : Shared} (hh : s.heap = c.h₀) (hg : s.gens = c.g) (ho : s.os = c.os) {RR : Result → Shared → Prop}
    (K : ∀ s', (∀ b p, c.h₀.get? b = some p → s'.heap.get? b = some p) → s'.gens = c.g → s'.os = c.os → RR (.ok (.ret (.bool true))) s') : codeAny c.M callerA (.call (.ref fa) ⟨[.ref sa], []⟩) RR s := by
  have S : SimX c (fun b => c.h₀.get? b) (fun _ => none) μ0 s := ⟨hg, ho, fun b o e => e, fun b o e => by rw [hh]; exact e, (fun b o e => nomatch e), (fun a mo e => nomatch e), fun b o e => rfl⟩
  refine call_def (ps := [.raw (.ref sa)]) F pg.ok.lim rfl rfl (room_caller.le (j := 9) (by decide)) (.cons (.raw _) .nil) S fun env s₁ hef hL hkp S₁ => ?_
  have rm : Room (callerA.deeper env) 8 := (room_caller.le (j := 9) (by decide)).deeper
  rw [law_body_eq, execs_append]
  refine wpAny_bind ((law_all (k := 0) (Q := fun f ρ m => f = .next ∧ ∃ a x y, 0 ≤ x ∧ 0 ≤ y ∧ ρ = ([("pool", .ptr a)] : Rho) ∧ m = poolM μ0 a x y) pg hs hv hl fun a x y hx hy => ⟨rfl, a, x, y, hx, hy, rfl, rfl⟩).use S₁ (rm.le (by decide)) fun f pf ρ' μ' fz' s' hq rf l1 S' => ?_)
  obtain ⟨rfl, a, x, y, hx, hy, rfl, rfl⟩ := hq
  (first | obtain rfl := rf.inv | obtain ⟨_, rfl⟩ := rf.inv | obtain ⟨_, _, _, rfl, _, _⟩ := rf.inv | obtain ⟨_, _, rfl, _⟩ := rf.inv | obtain ⟨_, rfl, _⟩ := rf.inv | obtain ⟨_, _, _, rfl, _, _, _, _, _⟩ := rf.inv | obtain ⟨_, _, _, _, rfl, _, _, _, _⟩ := rf.inv | obtain ⟨_, _, _, _, rfl, _, _, _, _, _⟩ := rf.inv | cases rf)
  refine law_last pg sg S' (rm.le (by decide)) hx hy (Around.frames_deeper (A := callerA) rfl) hef ?_ fun s'' h1 h2 h3 => K s'' h1 h2 h3
  rw [hL, hh]
  cases q : c.h₀.get? c.h₀.objs.size with
  | none => rfl
  | some o => exact absurd (Heap.lt_size q) (Nat.lt_irrefl _)
end
theorem segs_of {c : Cx} (pg : Pg c) : Segs c := by
  have h := pg.k.s
  simp only [Bool.and_eq_true, beq_iff_eq] at h
  exact ⟨pg.glob 6 rfl, ⟨⟨_, _, _, _, _, _, _, _, _, _, _, _, _, _, _, rfl, pg.ok.X _ _ pg.k.x⟩, h.1.1.2, h.1.2, h.2, pg.atOk 15 rfl, fn_of pg.ok.X pg.k.sF⟩, h.1.1.1, pg.n_Exception⟩
theorem ints_of {Rr : WRecords} {cl : Str → Option Addr} {h : Heap} {xs : List WData} : ∀ {vs : List Value} {as : List Addr}, WShape.hasItems Rr xs .int = true → ReadsAllW Rr cl h vs xs as → ∃ l, IntsAre vs l ∧ l.length = xs.length := by
  induction xs with
  | nil => intro vs as _ r; cases r; exact ⟨[], .nil, rfl⟩
  | cons x xs ih =>
    intro vs as e r
    cases r with
    | cons h1 h2 =>
      have e' := Bool.and_eq_true_iff.mp (show (WShape.has Rr x .int && WShape.hasItems Rr xs .int) = true from e)
      obtain ⟨i, rfl⟩ := hasW_int e'.1
      obtain ⟨t, rfl, _⟩ := readsW_int_inv h1
      obtain ⟨l, a, b⟩ := ih e'.2 h2
      exact ⟨i :: l, .cons _ _ a, congrArg (· + 1) b⟩
theorem len_of {xs : List WData} (h : PySem.Challenge.rw_ok0150_01.pre.holds [] { args := [.list xs] } = true) : xs.length ≤ 63 := by
  have hv : WTm.value [] PySem.Challenge.rw_ok0150_01.pre { args := [.list xs] } = some (.bool (!(decide ((63 : Int) < xs.length)) && true)) := w_and (w_not (w_lt w_lit (w_len_list (w_arg rfl)))) w_lit
  rw [holdsW_of_value hv, Bool.and_true, Bool.not_eq_true', decide_eq_false_iff_not] at h
  omega
theorem walk_gen {q : Program} {loose : List Str} {XP : (Str → Option Value) → Heap → Prop} {YP : World → Heap → Prop} {d : DefRec} {kwd : List (Str × Expr)} (K : Params → Frag) (hd : d.name = "law")
    (hY : ∀ w h, YP w h → (K w.params).In h) (hK : ∀ P, KOk (K P)) : WalkO q loose XP YP PySem.Challenge.rw_ok0150_01.row.toRowW d kwd (fun f vs => PySem.call f vs) := by
  intro w s₀ s₁ mg mb G Y a o pm cd doc dV kV ho hd' hcd hD hmg hg args vals as hpre hlay hrd hwl hlo
  obtain ⟨hsh, hpr⟩ := pre_splitW hpre
  obtain ⟨x, r, rfl, hx, hr⟩ := hasAllW_cons (e := .list .int) (es := []) hsh
  obtain rfl := hasAllW_nil hr
  obtain ⟨xs, rfl, hi⟩ := hasW_list hx
  have hlen : xs.length ≤ 63 := len_of hpr
  obtain ⟨vs, sa, rfl, hL, hrs⟩ : ∃ vs sa, vals = [.ref sa] ∧ s₁.heap.IsList sa vs ∧ ∃ as, ReadsAllW [] (classAt s₀.heap) s₁.heap vs.toList xs as := by
    cases hrd with
    | cons h1 h2 =>
      cases h2
      obtain ⟨sa, vs, as, rfl, e1, e2, _⟩ := readsW_list_inv h1
      exact ⟨vs, sa, rfl, e1, as, e2⟩
  obtain ⟨as', hrs⟩ := hrs
  obtain ⟨l, hv, hll⟩ := ints_of hi hrs
  have ok : CxOk ⟨PySem.Challenge.pw_ok0150_01, w, s₁.heap, mg, mb, K w.params, s₁.gens, s₁.os⟩ := ⟨G.T.g, G.T.b, G.T.nolimit, G.T.builtins, hY _ _ Y⟩
  have k := hK w.params
  have ha : a = 810 := by
    rw [hd] at hmg
    rcases Pg.g86 ⟨ok, k⟩ with h | ⟨h, _⟩ <;> cases hmg.symm.trans h
    rfl
  subst ha
  refine enter_call ?_
  refine law_run (c := ⟨PySem.Challenge.pw_ok0150_01, w, s₁.heap, mg, mb, K w.params, s₁.gens, s₁.os⟩) (l := l) (vs := vs.toList) ⟨ok, k⟩ (segs_of ⟨ok, k⟩) (Pg.F86 ⟨ok, k⟩) (by simpa using hL) hv (by lia) rfl rfl rfl fun s' h1 h2 h3 => ?_
  refine GoodW.toG ⟨.inl ⟨_, .bool true, [], rfl, fun _ => rfl, .bool true, ?_, fun _ => ⟨List.nodup_nil, fun a h => nomatch h⟩⟩, h1, h3, h2.trans hg⟩
  exact postW_of (r := PySem.Challenge.rw_ok0150_01.row.toRowW) (by kernel_rfl) (X := true) (by kernel_rfl) rfl
set_option Elab.async true
set_option maxHeartbeats 8000000
theorem hd2.tw13009479522161783954 : True := trivial
theorem hd2.tw5737332735241192480 : True := trivial
theorem hd2.tw4128767988726417249 : True := trivial
theorem hd2.tw16253987971922178028 : True := trivial
theorem hd2.tw13022177177971296676 : True := trivial
theorem hd2.tw15922921969505398080 : True := trivial
theorem hd2.tw4470482424692443511 : True := trivial
theorem hd2.tw12099618375495749695 : True := trivial
theorem hd2.tw5088563705975112129 : True := trivial
theorem hd2.tw10758829045107539745 : True := trivial
theorem hd2.tw8271626784378667306 : True := trivial
theorem hd2.tw5381142770286992853 : True := trivial
theorem hd2.tw3003488793566984961 : True := trivial
theorem hd2.tw11883153931115997500 : True := trivial
theorem hd2.tw17889488521886093340 : True := trivial
theorem hd2.tw232895017681259863 : True := trivial
theorem hd2.tw11954088364557726345 : True := trivial
theorem hd2.tw3417371867481628934 : True := trivial
theorem hd2.tw11297298445532149930 : True := trivial
theorem hd2.tw7706799133477932308 : True := trivial
theorem hd2.tw17229596565132584786 : True := trivial
theorem hd2.tw442533800346205434 : True := trivial
theorem hd2.tw11441457520234764932 : True := trivial
theorem hd2.tw3613394902670740962 : True := trivial
theorem hd2.tw6024257062932756046 : True := trivial
theorem hd2.tw7060728368964613334 : True := trivial
theorem hd2.tw11278946215007496617 : True := trivial
theorem hd2.tw18192534542955315565 : True := trivial
theorem hd2.tw6702375812892037697 : True := trivial
theorem hd2.tw14841918967673396970 : True := trivial
theorem hd2.tw4274355465694808290 : True := trivial
theorem hd2.tw7429732975807055481 : True := trivial
theorem hd2.tw14136071263411553132 : True := trivial
theorem hd2.tw4384171828855458497 : True := trivial
theorem hd2.tw12005222720998105849 : True := trivial
theorem hd2.tw13069835003938926414 : True := trivial
theorem hd2.tw9834896265840584545 : True := trivial
theorem hd2.tw11956235161580187807 : True := trivial
theorem hd2.tw4784863947839583493 : True := trivial
theorem hd2.tw6243474115213391255 : True := trivial
theorem hd2.tw13684506872731147418 : True := trivial
theorem hd2.tw8191259446269052112 : True := trivial
theorem hd2.tw7468408902884150124 : True := trivial
theorem hd2.tw4998704674615909244 : True := trivial
theorem hd2.tw3060460626397212543 : True := trivial
theorem hd2.tw1016670596637295103 : True := trivial
theorem hd2.tw2649781233481127527 : True := trivial
theorem hd2.tw5091350914867752614 : True := trivial
theorem hd2.tw8214501602401235619 : True := trivial
theorem hd2.tw10680006619572943207 : True := trivial
theorem hd2.tw16679996685056373772 : True := trivial
theorem hd2.tw4339703559699329546 : True := trivial
theorem hd2.tw9576509576237968856 : True := trivial
theorem hd2.tw10252134433212838402 : True := trivial
theorem hd2.tw894107782708185654 : True := trivial
theorem hd2.tw14535519947892973109 : True := trivial
theorem hd2.tw2980639835392908229 : True := trivial
theorem hd2.tw10717248800571377769 : True := trivial
theorem hd2.tw15521083237468486930 : True := trivial
theorem hd2.tw3192500830483082762 : True := trivial
theorem hd2.tw13121158782716548393 : True := trivial
theorem hd2.tw16087535857578596309 : True := trivial
theorem hd2.tw9228096922577178498 : True := trivial
theorem hd2.tw16638332994763977700 : True := trivial
theorem hd2.tw8345366104957642123 : True := trivial
theorem hd2.tw12083023223209621106 : True := trivial
theorem hd2.tw6504877948224729956 : True := trivial
theorem hd2.tw8865914463477348075 : True := trivial
theorem hd2.tw1787107200673103788 : True := trivial
theorem hd2.tw12358038186195062226 : True := trivial
theorem hd2.tw7227036050337712260 : True := trivial
theorem hd2.tw14031018116716866922 : True := trivial
theorem hd2.tw12928424808438135416 : True := trivial
theorem hd2.tw4948855421719490634 : True := trivial
theorem hd2.tw3486723893036766803 : True := trivial
theorem hd2.tw10383476536211362197 : True := trivial
theorem hd2.tw3468476826197804819 : True := trivial
theorem hd2.tw15884449130635123080 : True := trivial
theorem hd2.tw4617041605102644846 : True := trivial
theorem hd2.tw11967794556566744701 : True := trivial
theorem hd2.tw9353670794185455838 : True := trivial
theorem hd2.tw5941045177961228408 : True := trivial
theorem hd2.tw7852763864324828340 : True := trivial
theorem hd2.tw18244029573801984608 : True := trivial
theorem hd2.tw2982098363654568412 : True := trivial
theorem hd2.tw12537377171073117298 : True := trivial
theorem hd2.tw13196075420632801443 : True := trivial
theorem hd2.tw10775602184430622732 : True := trivial
theorem hd2.tw14914221642459982579 : True := trivial
theorem hd2.tw6773467909598653447 : True := trivial
theorem hd2.tw14697023278471197186 : True := trivial
theorem hd2.tw1995820312777477096 : True := trivial
theorem hd2.tw13035483823389284326 : True := trivial
theorem hd2.tw6368226021125579375 : True := trivial
theorem hd2.tw10154255850632092684 : True := trivial
theorem hd2.tw8901232660195275497 : True := trivial
theorem hd2.tw2057569907562001219 : True := trivial
theorem hd2.tw4786554070911227374 : True := trivial
theorem hd2.tw6939498815387433052 : True := trivial
theorem hd2.tw14215340625099082425 : True := trivial
theorem hd2.tw6731238902618007780 : True := trivial
theorem hd2.tw4023226610488273429 : True := trivial
theorem hd2.tw10248643689749959027 : True := trivial
theorem hd2.tw6977612739306952436 : True := trivial
theorem hd2.tw17130049829372506651 : True := trivial
theorem hd2.tw15547217005372413827 : True := trivial
theorem hd2.tw14720072767486421162 : True := trivial
theorem hd2.tw4212724060365503273 : True := trivial
theorem hd2.tw6674879518672797091 : True := trivial
theorem hd2.tw708710708409164090 : True := trivial
theorem hd2.tw6719488946817741258 : True := trivial
theorem hd2.tw11891360861111629672 : True := trivial
theorem hd2.tw7275898014706179070 : True := trivial
theorem hd2.tw2538044023055212237 : True := trivial
theorem hd2.tw16913471874481806806 : True := trivial
theorem hd2.tw2331008334238325607 : True := trivial
theorem hd2.tw551482429981997022 : True := trivial
theorem hd2.tw5554953683016035050 : True := trivial
theorem hd2.tw5120478469670888287 : True := trivial
theorem hd2.tw10052973409958864276 : True := trivial
theorem hd2.tw1237695933587877986 : True := trivial
theorem hd2.tw1169287580268183989 : True := trivial
theorem hd2.tw14942923227314695491 : True := trivial
theorem hd2.tw4816916474731604615 : True := trivial
theorem hd2.tw2423864861518963502 : True := trivial
theorem hd2.tw5549392869752192160 : True := trivial
theorem hd2.tw10188748099632924578 : True := trivial
theorem hd2.tw11787609962004138823 : True := trivial
theorem hd2.tw5607453421835158754 : True := trivial
theorem hd2.tw13266623407693547576 : True := trivial
theorem hd2.tw14943831677684280806 : True := trivial
theorem hd2.tw4344331239661425092 : True := trivial
theorem hd2.tw12752554215234138694 : True := trivial
theorem hd2.tw8936454479896565209 : True := trivial
theorem hd2.tw9090933072120042960 : True := trivial
theorem hd2.tw11875834172938221735 : True := trivial
theorem hd2.tw16190289631961429229 : True := trivial
theorem hd2.tw13366119217861580157 : True := trivial
theorem hd2.tw9322742494161612954 : True := trivial
theorem hd2.tw13539682498634434439 : True := trivial
theorem hd2.tw8037156812070871999 : True := trivial
theorem hd2.tw9576705518253014787 : True := trivial
theorem hd2.tw14640851457500790892 : True := trivial
theorem hd2.tw6755827156874647660 : True := trivial
theorem hd2.tw5821756878301164049 : True := trivial
theorem hd2.tw6308884864538318334 : True := trivial
theorem hd2.tw4650082115400744344 : True := trivial
theorem hd2.tw6902910788452922097 : True := trivial
theorem hd2.tw15191579460534920666 : True := trivial
theorem hd2.tw15618681550133296219 : True := trivial
theorem hd2.tw9423079059689299485 : True := trivial
theorem hd2.tw6915185480892712120 : True := trivial
theorem hd2.tw3641008977160632490 : True := trivial
theorem hd2.tw10748012416472610195 : True := trivial
theorem hd2.tw6601959210177531916 : True := trivial
theorem hd2.tw175990094711400058 : True := trivial
theorem hd2.tw6815210391746928124 : True := trivial
theorem hd2.tw16747496576038893930 : True := trivial
theorem hd2.tw11341083162363354417 : True := trivial
theorem hd2.tw1788168185067038367 : True := trivial
theorem hd2.tw15216583192083378175 : True := trivial
theorem hd2.tw15600289812112505199 : True := trivial
theorem hd2.tw13116475276018460668 : True := trivial
theorem hd2.tw2982539634079500505 : True := trivial
theorem hd2.tw18409712510870665160 : True := trivial
theorem hd2.tw5271938114818569383 : True := trivial
theorem hd2.tw14256529269869474721 : True := trivial
theorem hd2.tw4877783700938437086 : True := trivial
theorem hd2.tw13521086968577765447 : True := trivial
theorem hd2.tw15732137743776533925 : True := trivial
theorem hd2.tw17821619119119431461 : True := trivial
theorem hd2.tw4697668514314907254 : True := trivial
theorem hd2.tw15527655511910440995 : True := trivial
theorem hd2.tw3490333596573908316 : True := trivial
theorem hd2.tw7168371709404737774 : True := trivial
theorem hd2.tw7895773064506100587 : True := trivial
theorem hd2.tw1615570378291331713 : True := trivial
theorem hd2.tw14215087418348011767 : True := trivial
theorem hd2.tw6339312482876286893 : True := trivial
theorem hd2.tw7163447663049038801 : True := trivial
theorem hd2.tw13189106458367000409 : True := trivial
theorem hd2.tw11597827291665386786 : True := trivial
theorem hd2.tw9142408449358639698 : True := trivial
theorem hd2.tw15495601138553814600 : True := trivial
theorem hd2.tw6288327023177203892 : True := trivial
theorem hd2.tw10866836599954026347 : True := trivial
theorem hd2.tw17809225897433634773 : True := trivial
theorem hd2.tw4891393214369594935 : True := trivial
theorem hd2.tw482136905577301351 : True := trivial
theorem hd2.tw32522111057463545 : True := trivial
theorem hd2.tw5362490664333006865 : True := trivial
theorem hd2.tw3661949693849829990 : True := trivial
theorem hd2.tw5936708222865416210 : True := trivial
theorem hd2.tw6532030988210054565 : True := trivial
theorem hd2.tw9674281635639567711 : True := trivial
theorem hd2.tw9312075788884646397 : True := trivial
theorem hd2.tw7998240894296098776 : True := trivial
theorem hd2.tw8508769861219786846 : True := trivial
theorem hd2.tw14894027421238549275 : True := trivial
theorem hd2.tw17255937915606620953 : True := trivial
theorem hd2.tw16406783082193439448 : True := trivial
theorem hd2.tw9548762236209821738 : True := trivial
theorem hd2.tw1217241508783998087 : True := trivial
theorem hd2.tw10360535843966251840 : True := trivial
theorem hd2.tw8883832819917700884 : True := trivial
theorem hd2.tw13768875234911871128 : True := trivial
theorem hd2.tw17696548171621591989 : True := trivial
theorem hd2.tw9802295697211912694 : True := trivial
theorem hd2.tw13808098181718039452 : True := trivial
theorem hd2.tw1256580951684823992 : True := trivial
theorem hd2.tw2087716684499464581 : True := trivial
theorem hd2.tw10942033058075514817 : True := trivial
theorem hd2.tw4208630012958610394 : True := trivial
theorem hd2.tw10191696753133945466 : True := trivial
theorem hd2.tw353303069719100757 : True := trivial
theorem hd2.tw1863054346547387268 : True := trivial
theorem hd2.tw262287036633283243 : True := trivial
theorem hd2.tw9250895064746319272 : True := trivial
theorem hd2.tw16873221599792419055 : True := trivial
theorem hd2.tw10272772584803894524 : True := trivial
theorem hd2.tw11129188869610538314 : True := trivial
theorem hd2.tw9931816716460518110 : True := trivial
theorem hd2.tw14023998935749123435 : True := trivial
theorem hd2.tw3433207971968412175 : True := trivial
theorem hd2.tw10533107972697636804 : True := trivial
theorem hd2.tw2693518484206568101 : True := trivial
theorem hd2.tw1196108307587243228 : True := trivial
theorem hd2.tw17039020653511099826 : True := trivial
theorem hd2.tw767523161667480977 : True := trivial
theorem hd2.tw1909785642558140098 : True := trivial
theorem hd2.tw14396293657529361391 : True := trivial
theorem hd2.tw5693816991731773788 : True := trivial
theorem hd2.tw3792150083703065982 : True := trivial
theorem hd2.tw11253710270555237016 : True := trivial
theorem hd2.tw6009688105174031872 : True := trivial
theorem hd2.tw14379076838107445011 : True := trivial
theorem hd2.tw16686898776239975625 : True := trivial
theorem hd2.tw14194125027541112797 : True := trivial
theorem hd2.tw17237646537067781763 : True := trivial
theorem hd2.tw3122970029111052557 : True := trivial
theorem hd2.tw4138052882804363771 : True := trivial
theorem hd2.tw5203767396539817749 : True := trivial
theorem hd2.tw7973587357895806194 : True := trivial
theorem hd2.tw17442912257199536875 : True := trivial
theorem hd2.tw14401057463952056089 : True := trivial
theorem hd2.tw1520809361914864758 : True := trivial
theorem hd2.tw15862463550356848744 : True := trivial
theorem hd2.tw2235074827555887178 : True := trivial
theorem hd2.tw4222651890790745610 : True := trivial
theorem hd2.tw16457211209562306832 : True := trivial
theorem hd2.tw14342148964104363333 : True := trivial
theorem hd2.tw6101760290850618121 : True := trivial
theorem hd2.tw2348690137466451480 : True := trivial
theorem hd2.tw10219850682025270129 : True := trivial
theorem hd2.tw6671275844181521660 : True := trivial
theorem hd2.tw14686837934422546615 : True := trivial
theorem hd2.tw1595972307316097103 : True := trivial
theorem hd2.tw9874975876783469125 : True := trivial
theorem hd2.tw15176672583364487161 : True := trivial
theorem hd2.tw15989832115310774332 : True := trivial
theorem hd2.tw4436973419971921206 : True := trivial
theorem hd2.tw9749753934752944884 : True := trivial
theorem hd2.tw10041127296896847916 : True := trivial
theorem hd2.tw17729420277734569955 : True := trivial
theorem hd2.tw8779171860619232142 : True := trivial
theorem hd2.tw18059104594531047267 : True := trivial
theorem hd2.tw10666633089758425780 : True := trivial
theorem hd2.tw7290428043505870489 : True := trivial
theorem hd2.tw71533331695246426 : True := trivial
theorem hd2.tw4531429069147537543 : True := trivial
theorem hd2.tw13170595746660695564 : True := trivial
theorem hd2.tw7875540786070732152 : True := trivial
theorem hd2.tw55607396526106977 : True := trivial
theorem hd2.tw9975164428627517902 : True := trivial
theorem hd2.tw6094729067435387435 : True := trivial
theorem hd2.tw9001575777495838784 : True := trivial
theorem hd2.tw13635312476280050021 : True := trivial
theorem hd2.tw6360799348238518018 : True := trivial
theorem hd2.tw1230165769213727595 : True := trivial
theorem hd2.tw12484154373126971508 : True := trivial
theorem hd2.tw8006859400109840664 : True := trivial
theorem hd2.tw2126447280774793394 : True := trivial
theorem hd2.tw1386277679703014416 : True := trivial
theorem hd2.tw14921811630059155960 : True := trivial
theorem hd2.tw8642559067746812850 : True := trivial
theorem hd2.tw14078174918965225603 : True := trivial
theorem hd2.tw18019478846407220815 : True := trivial
theorem hd2.tw16565451473518323588 : True := trivial
theorem hd2.tw4346409662881557102 : True := trivial
theorem hd2.tw8808935482714438731 : True := trivial
theorem hd2.tw10706713821126876067 : True := trivial
theorem hd2.tw734633284641387689 : True := trivial
theorem hd2.tw8739050139373961009 : True := trivial
theorem hd2.tw13175543063059372526 : True := trivial
theorem hd2.tw7247576151377463746 : True := trivial
theorem hd2.tw8435538589820232700 : True := trivial
theorem hd2.tw6355366842176592239 : True := trivial
theorem hd2.tw13051000892100466696 : True := trivial
theorem hd2.tw1444440135474070075 : True := trivial
theorem hd2.tw15959769663615884937 : True := trivial
theorem hd2.tw3231304084998413415 : True := trivial
theorem hd2.tw7364602861681324575 : True := trivial
theorem hd2.tw17048861347830081487 : True := trivial
theorem hd2.tw12887476875452498069 : True := trivial
theorem hd2.tw5760106387988716458 : True := trivial
theorem hd2.tw2012775963990416642 : True := trivial
theorem hd2.tw5439220691504817211 : True := trivial
theorem hd2.tw3154296723918424043 : True := trivial
theorem hd2.tw16910883158370928493 : True := trivial
theorem hd2.tw12763764424270198577 : True := trivial
theorem hd2.tw11174228389967080086 : True := trivial
theorem hd2.tw15696999210736300618 : True := trivial
theorem hd2.tw9030083065773517369 : True := trivial
theorem hd2.tw5521143679866273701 : True := trivial
theorem hd2.tw18248147197437350449 : True := trivial
theorem hd2.tw8108540578436229937 : True := trivial
theorem hd2.tw4272443717928200365 : True := trivial
theorem hd2.tw1435591422723803084 : True := trivial
theorem hd2.tw11818442767299857642 : True := trivial
theorem hd2.tw12530866522774754677 : True := trivial
theorem hd2.tw1903811608394549253 : True := trivial
theorem hd2.tw11081256818881743468 : True := trivial
theorem hd2.tw1698310995043944543 : True := trivial
theorem hd2.tw15352490148716938460 : True := trivial
theorem hd2.tw992009045571396808 : True := trivial
theorem hd2.tw12466773587236661786 : True := trivial
theorem hd2.tw10686981873337859931 : True := trivial
theorem hd2.tw17146770199489380769 : True := trivial
theorem hd2.tw2769112049811719188 : True := trivial
theorem hd2.tw3047423576518684788 : True := trivial
theorem hd2.tw6335107781196790513 : True := trivial
theorem hd2.tw14472753914779276088 : True := trivial
theorem hd2.tw622305421618594425 : True := trivial
theorem hd2.tw15423517189023148729 : True := trivial
theorem hd2.tw8184663971639331756 : True := trivial
theorem hd2.tw10628401907142525191 : True := trivial
theorem hd2.tw5925304531832806970 : True := trivial
theorem hd2.tw13619548112358091664 : True := trivial
theorem hd2.tw17063568424206148002 : True := trivial
theorem hd2.tw5894657894921262582 : True := trivial
theorem hd2.tw6433835771088390112 : True := trivial
theorem hd2.tw5221819983072792899 : True := trivial
theorem hd2.tw11970665417900345971 : True := trivial
theorem hd2.tw4986522300587698104 : True := trivial
theorem hd2.tw17377126412373271015 : True := trivial
theorem hd2.tw3367576524875659688 : True := trivial
theorem hd2.tw17142955953045606057 : True := trivial
theorem hd2.tw710885876865845836 : True := trivial
theorem hd2.tw12501706066654292219 : True := trivial
theorem hd2.tw10272945827294731763 : True := trivial
theorem hd2.tw14821936039021965399 : True := trivial
theorem hd2.tw10088504024309026110 : True := trivial
theorem hd2.tw18331866940933885689 : True := trivial
theorem hd2.tw17971443411627580558 : True := trivial
theorem hd2.tw9514616225478430594 : True := trivial
theorem hd2.tw8090823174340995975 : True := trivial
theorem hd2.tw4960970959582891546 : True := trivial
theorem hd2.tw18141258880019740379 : True := trivial
theorem hd2.tw11149403225895476569 : True := trivial
theorem hd2.tw7235931902288160564 : True := trivial
theorem hd2.tw8844539425579231078 : True := trivial
theorem hd2.tw12800997404657656192 : True := trivial
theorem hd2.tw10850752361300743184 : True := trivial
theorem hd2.tw13195917780136099402 : True := trivial
theorem hd2.tw1935317536839960691 : True := trivial
theorem hd2.tw5724285506335090026 : True := trivial
theorem hd2.tw6541981660880656221 : True := trivial
theorem hd2.tw6686078306103431042 : True := trivial
theorem hd2.tw17122416369250961311 : True := trivial
theorem hd2.tw13695168601640147472 : True := trivial
theorem hd2.tw3556367115372997290 : True := trivial
theorem hd2.tw5034723987699173382 : True := trivial
theorem hd2.tw1836901660661362197 : True := trivial
theorem hd2.tw4047575660166857361 : True := trivial
theorem hd2.tw6442998482030438663 : True := trivial
theorem hd2.tw17680995164864114740 : True := trivial
theorem hd2.tw14747932260711156607 : True := trivial
theorem hd2.tw10093022765178181272 : True := trivial
theorem hd2.tw5506855588011826855 : True := trivial
theorem hd2.tw18097591840932859414 : True := trivial
theorem hd2.tw10392855127027845396 : True := trivial
theorem hd2.tw16549696160805026549 : True := trivial
theorem hd2.tw10703380130156237404 : True := trivial
theorem hd2.tw7731060619895641366 : True := trivial
theorem hd2.tw7480664447817381275 : True := trivial
theorem hd2.tw5236335410611732991 : True := trivial
theorem hd2.tw9178447152694605359 : True := trivial
theorem hd2.tw5158208639234804763 : True := trivial
theorem hd2.tw3639612239117024219 : True := trivial
theorem hd2.tw13507579669612370178 : True := trivial
theorem hd2.tw4431069293143485328 : True := trivial
theorem hd2.tw5010817206199610734 : True := trivial
theorem hd2.tw6872981795101872465 : True := trivial
theorem hd2.tw754285140521276078 : True := trivial
theorem hd2.tw6718111456414773483 : True := trivial
theorem hd2.tw14250843949610307300 : True := trivial
theorem hd2.tw14939525105098405936 : True := trivial
theorem hd2.tw15719296428168962565 : True := trivial
theorem hd2.tw3202660704905915197 : True := trivial
theorem hd2.tw5361115814481138938 : True := trivial
theorem hd2.tw101041087702457904 : True := trivial
theorem hd2.tw11636861072522841108 : True := trivial
theorem hd2.tw5162195762927539322 : True := trivial
theorem hd2.tw391315536267058294 : True := trivial
theorem hd2.tw4608914758703064736 : True := trivial
theorem hd2.tw14521410870882814254 : True := trivial
theorem hd2.tw10189825699233536357 : True := trivial
theorem hd2.tw2164801795699636843 : True := trivial
theorem hd2.tw16916649635783214691 : True := trivial
theorem hd2.tw21574547610721987 : True := trivial
theorem hd2.tw615674736870440945 : True := trivial
theorem hd2.tw13260789386932730063 : True := trivial
theorem hd2.tw4481329712052173971 : True := trivial
theorem hd2.tw6236451197060791999 : True := trivial
theorem hd2.tw7128966471238075169 : True := trivial
theorem hd2.tw6070952261226161663 : True := trivial
theorem hd2.tw1032505069526019670 : True := trivial
theorem hd2.tw13434019930319771924 : True := trivial
theorem hd2.tw13948321209307596347 : True := trivial
theorem hd2.tw16097522423330317400 : True := trivial
theorem hd2.tw10118509117330703962 : True := trivial
theorem hd2.tw5296060203790821902 : True := trivial
theorem hd2.tw4020321512730744655 : True := trivial
theorem hd2.tw2403368290362765634 : True := trivial
theorem hd2.tw13162815524414113834 : True := trivial
theorem hd2.tw13646780889659836927 : True := trivial
theorem hd2.tw6602815505063476238 : True := trivial
theorem hd2.tw10599195360925122940 : True := trivial
theorem hd2.tw3199234756029852028 : True := trivial
theorem hd2.tw11886118393436536228 : True := trivial
theorem hd2.tw7357430904608827199 : True := trivial
theorem hd2.tw537339855394300490 : True := trivial
theorem hd2.tw1454878787431918993 : True := trivial
theorem hd2.tw2367618826561235696 : True := trivial
theorem hd2.tw1915632612733649517 : True := trivial
theorem hd2.tw13124616459249873497 : True := trivial
theorem hd2.tw5858988257725350915 : True := trivial
theorem hd2.tw3571847127490814351 : True := trivial
theorem hd2.tw14064317837418037555 : True := trivial
theorem hd2.tw16617358362609105000 : True := trivial
theorem hd2.tw17610023445318247383 : True := trivial
theorem hd2.tw8398703261778151150 : True := trivial
theorem hd2.tw7998344961517463956 : True := trivial
theorem hd2.tw18418512666878738487 : True := trivial
theorem hd2.tw13177813741639216242 : True := trivial
theorem hd2.tw15409490714596824324 : True := trivial
theorem hd2.tw8199764985606647887 : True := trivial
theorem hd2.tw10945553382814038100 : True := trivial
theorem hd2.tw12114058742522675116 : True := trivial
theorem hd2.tw10905018937949311775 : True := trivial
theorem hd2.tw4479011239912934169 : True := trivial
theorem hd2.tw1931574838157158332 : True := trivial
theorem hd2.tw16347485515786729298 : True := trivial
theorem hd2.tw8065851819844010131 : True := trivial
theorem hd2.tw15898290613689916817 : True := trivial
theorem hd2.tw4865407056189898329 : True := trivial
theorem hd2.tw2129821099330906877 : True := trivial
theorem hd2.tw10241007629101191326 : True := trivial
theorem hd2.tw13061873611917540826 : True := trivial
theorem hd2.tw2878530497415329576 : True := trivial
theorem hd2.tw4013735811783285400 : True := trivial
theorem hd2.tw13874339593932663290 : True := trivial
theorem hd2.tw11391031360288678349 : True := trivial
theorem hd2.tw1860114071392357742 : True := trivial
theorem hd2.tw5272585545272146486 : True := trivial
theorem hd2.tw13116479308923629230 : True := trivial
theorem hd2.tw5938086500499771950 : True := trivial
theorem hd2.tw2780089739463094493 : True := trivial
theorem hd2.tw5018383507687693982 : True := trivial
theorem hd2.tw11049299353231010424 : True := trivial
theorem hd2.tw6222138239097249262 : True := trivial
theorem hd2.tw17844157391508113707 : True := trivial
theorem hd2.tw1373332207738206599 : True := trivial
theorem hd2.tw3502989392171735418 : True := trivial
theorem hd2.tw17308713692068450198 : True := trivial
theorem hd2.tw7369966113030148815 : True := trivial
theorem hd2.tw10383524548708789777 : True := trivial
theorem hd2.tw563407987707677041 : True := trivial
theorem hd2.tw1505970067136714487 : True := trivial
theorem hd2.tw14822852427591402130 : True := trivial
theorem hd2.tw7739015951003946850 : True := trivial
theorem hd2.tw3531249046930223117 : True := trivial
theorem hd2.tw9745169078473251068 : True := trivial
theorem hd2.tw11858966245392364903 : True := trivial
theorem hd2.tw2998908863845618366 : True := trivial
theorem hd2.tw7422703064994039397 : True := trivial
theorem hd2.tw5765930190879127807 : True := trivial
theorem hd2.tw7567016876032755827 : True := trivial
theorem hd2.tw10470765325327829652 : True := trivial
theorem hd2.tw13121207220110486336 : True := trivial
theorem hd2.tw10350511180549329028 : True := trivial
theorem hd2.tw15648364054427486478 : True := trivial
theorem hd2.tw1686081868800429584 : True := trivial
theorem hd2.tw5499910793742561429 : True := trivial
theorem hd2.tw6654425124794004566 : True := trivial
theorem hd2.tw14840311160539740862 : True := trivial
theorem hd2.tw11993121850234153533 : True := trivial
theorem hd2.tw6523880012763818166 : True := trivial
theorem hd2.tw9317197213634029570 : True := trivial
theorem hd2.tw15717762271390065686 : True := trivial
theorem hd2.tw4563063862021744988 : True := trivial
theorem hd2.tw604307690595882831 : True := trivial
theorem hd2.tw11237372735114035931 : True := trivial
theorem hd2.tw9052652615091719023 : True := trivial
theorem hd2.tw1787761290930888318 : True := trivial
theorem hd2.tw17690794081459551350 : True := trivial
theorem hd2.tw12865084311106458185 : True := trivial
theorem hd2.tw18417741203989945379 : True := trivial
theorem hd2.tw16424793038766946419 : True := trivial
theorem hd2.tw11487665957702846800 : True := trivial
theorem hd2.tw1515902473070023211 : True := trivial
theorem hd2.tw16633211826121731172 : True := trivial
theorem hd2.tw14347230989661045164 : True := trivial
theorem hd2.tw7628335523113821788 : True := trivial
theorem hd2.tw9779664457168377592 : True := trivial
theorem hd2.tw7565179688163074059 : True := trivial
theorem hd2.tw12225221494049422591 : True := trivial
theorem hd2.tw10903109540234210708 : True := trivial
theorem hd2.tw17415303052053095784 : True := trivial
theorem hd2.tw17883529072271118419 : True := trivial
theorem hd2.tw16259318733414842982 : True := trivial
theorem hd2.tw3786290236359867107 : True := trivial
theorem hd2.tw3660936679093931993 : True := trivial
theorem hd2.tw14170056426808676843 : True := trivial
theorem hd2.tw5524305674342914610 : True := trivial
theorem hd2.tw3621270667139059588 : True := trivial
theorem hd2.tw10263914928000536134 : True := trivial
theorem hd2.tw12395118295190747207 : True := trivial
theorem hd2.tw14363115554507852009 : True := trivial
theorem hd2.tw17414271194069601105 : True := trivial
theorem hd2.tw7745089850723280071 : True := trivial
theorem hd2.tw9456819424216790232 : True := trivial
theorem hd2.tw18121077527062402413 : True := trivial
theorem hd2.tw629296718965451232 : True := trivial
theorem hd2.tw12906163079172978134 : True := trivial
theorem hd2.tw8667247941962200066 : True := trivial
theorem hd2.tw17402436503830534284 : True := trivial
theorem hd2.tw13444297048616498438 : True := trivial
theorem hd2.tw7322722211573931690 : True := trivial
theorem hd2.tw12698942917634718603 : True := trivial
theorem hd2.tw496918402663604591 : True := trivial
theorem hd2.tw17831716376430199396 : True := trivial
theorem hd2.tw10806085509600199591 : True := trivial
theorem hd2.tw1817836784272453372 : True := trivial
theorem hd2.tw11921682110192740759 : True := trivial
theorem hd2.tw6985218532863665046 : True := trivial
theorem hd2.tw4412774973255168245 : True := trivial
theorem hd2.tw14510660280629541473 : True := trivial
theorem hd2.tw5047766865301894013 : True := trivial
theorem hd2.tw8235645056348259674 : True := trivial
theorem hd2.tw8881121161803933202 : True := trivial
theorem hd2.tw16730665260891833016 : True := trivial
theorem hd2.tw1077975192478734824 : True := trivial
theorem hd2.tw4254335569860116125 : True := trivial
theorem hd2.tw14998125846048791180 : True := trivial
theorem hd2.tw10622391581404431582 : True := trivial
theorem hd2.tw3959511540923809137 : True := trivial
theorem hd2.tw12437961735183429394 : True := trivial
theorem hd2.tw6586011627591172788 : True := trivial
theorem hd2.tw12687031005954012045 : True := trivial
theorem hd2.tw15949631357628695753 : True := trivial
theorem hd2.tw3402980386217941748 : True := trivial
theorem hd2.tw17940350126747785721 : True := trivial
theorem hd2.tw18251150534381370768 : True := trivial
theorem hd2.tw11418891354488242482 : True := trivial
theorem hd2.tw15378289749790382759 : True := trivial
theorem hd2.tw17809598279345394790 : True := trivial
theorem hd2.tw1879348650351245959 : True := trivial
theorem hd2.tw15210545484547487261 : True := trivial
theorem hd2.tw10072292476747231436 : True := trivial
theorem hd2.tw2816443026691090857 : True := trivial
theorem hd2.tw8790911669259295075 : True := trivial
theorem hd2.tw12663200494614407574 : True := trivial
theorem hd2.tw5801848462154069194 : True := trivial
theorem hd2.tw7984481551674939038 : True := trivial
theorem hd2.tw15208113223592336379 : True := trivial
theorem hd2.tw7256602871725363862 : True := trivial
theorem hd2.tw10001107529534686008 : True := trivial
theorem hd2.tw6098957265708142521 : True := trivial
theorem hd2.tw7914577561064067004 : True := trivial
theorem hd2.tw5075845328937122775 : True := trivial
theorem hd2.tw5660746635817024167 : True := trivial
theorem hd2.tw13768295445995168912 : True := trivial
theorem hd2.tw9382765649899103710 : True := trivial
theorem hd2.tw14524284236988537565 : True := trivial
theorem hd2.tw6144609128279099713 : True := trivial
theorem hd2.tw593880118170195310 : True := trivial
theorem hd2.tw9303152165652212828 : True := trivial
theorem hd2.tw17333751506050260841 : True := trivial
theorem hd2.tw12480029167471659182 : True := trivial
theorem hd2.tw3241160349922251781 : True := trivial
theorem hd2.tw8996479975297183944 : True := trivial
theorem hd2.tw7586906871858947048 : True := trivial
theorem hd2.tw16249154343376908211 : True := trivial
theorem hd2.tw7313264215350837002 : True := trivial
theorem hd2.tw6454775635760338649 : True := trivial
theorem hd2.tw2896239165755899801 : True := trivial
theorem hd2.tw5786896752989776576 : True := trivial
theorem hd2.tw8147967592418592009 : True := trivial
theorem hd2.tw14888089762894650475 : True := trivial
theorem hd2.tw14777778161554218222 : True := trivial
theorem hd2.tw1662680480027834859 : True := trivial
theorem hd2.tw9891940239095931389 : True := trivial
theorem hd2.tw7651836234707599437 : True := trivial
theorem hd2.tw9677877252148682199 : True := trivial
theorem hd2.tw4236401495220460536 : True := trivial
theorem hd2.tw14861900038808820964 : True := trivial
theorem hd2.tw9385338347493957240 : True := trivial
theorem hd2.tw6420584863656811356 : True := trivial
theorem hd2.tw15301353225578624313 : True := trivial
theorem hd2.tw17361329247131271939 : True := trivial
theorem hd2.tw15103536972353563874 : True := trivial
theorem hd2.tw17345903713890797570 : True := trivial
theorem hd2.tw16296067290166642335 : True := trivial
theorem hd2.tw7961269805610273814 : True := trivial
theorem hd2.tw8018312643286630970 : True := trivial
theorem hd2.tw9952405980154550459 : True := trivial
theorem hd2.tw8648657475505837473 : True := trivial
theorem hd2.tw12212480016720595680 : True := trivial
theorem hd2.tw7140078810457539764 : True := trivial
theorem hd2.tw6173785857712799246 : True := trivial
theorem hd2.tw12303281381853598370 : True := trivial
theorem hd2.tw14811771008786699973 : True := trivial
theorem hd2.tw10739083370922719757 : True := trivial
theorem hd2.tw9557856505351115264 : True := trivial
theorem hd2.tw14408509315152880592 : True := trivial
theorem hd2.tw7290744685163844800 : True := trivial
theorem hd2.tw10510122171135909860 : True := trivial
theorem hd2.tw1341185573248495567 : True := trivial
theorem hd2.tw12652722771303859394 : True := trivial
theorem hd2.tw25057201429987798 : True := trivial
theorem hd2.tw16262723031764260620 : True := trivial
theorem hd2.tw5105642419512490355 : True := trivial
theorem hd2.tw17708678245242182156 : True := trivial
theorem hd2.tw287392569248815262 : True := trivial
theorem hd2.tw8269391900199135338 : True := trivial
theorem hd2.tw13303744932834278739 : True := trivial
theorem hd2.tw17434558074447078469 : True := trivial
theorem hd2.tw17047151278299579084 : True := trivial
theorem hd2.tw9942854315240220709 : True := trivial
theorem hd2.tw8363148757629523540 : True := trivial
theorem hd2.tw1683992801566113180 : True := trivial
theorem hd2.tw3401203273196837721 : True := trivial
theorem hd2.tw1032843323036566331 : True := trivial
theorem hd2.tw16540930881471524469 : True := trivial
theorem hd2.tw16066228932003094494 : True := trivial
theorem hd2.tw8935359302326817146 : True := trivial
theorem hd2.tw7081095014359306574 : True := trivial
theorem hd2.tw521047591097249419 : True := trivial
theorem hd2.tw16155736904769951147 : True := trivial
theorem hd2.tw17123624166458819686 : True := trivial
theorem hd2.tw5250961867106261114 : True := trivial
theorem hd2.tw16499565783291953072 : True := trivial
theorem hd2.tw12683001104823929121 : True := trivial
theorem hd2.tw15503824498591061530 : True := trivial
theorem hd2.tw7916450717366805672 : True := trivial
theorem hd2.tw14352818149260147915 : True := trivial
theorem hd2.tw15437352426557854470 : True := trivial
theorem hd2.tw4136012151057083353 : True := trivial
theorem hd2.tw401881018233993473 : True := trivial
theorem hd2.tw8963739474331904773 : True := trivial
theorem hd2.tw14342580606220143046 : True := trivial
theorem hd2.tw6819673447401007104 : True := trivial
theorem hd2.tw10747489054592075467 : True := trivial
theorem hd2.tw1364805901969228873 : True := trivial
theorem hd2.tw15587563420470775918 : True := trivial
theorem hd2.tw8277031401484564934 : True := trivial
theorem hd2.tw3956109169445426417 : True := trivial
theorem hd2.tw11456116921625944867 : True := trivial
theorem hd2.tw11667869617174447709 : True := trivial
theorem hd2.tw6727789753133388713 : True := trivial
theorem hd2.tw16631638761024028562 : True := trivial
theorem hd2.tw7976771700089377751 : True := trivial
theorem hd2.tw17804281964276252035 : True := trivial
theorem hd2.tw8591987019127424796 : True := trivial
theorem hd2.tw13469318545472341388 : True := trivial
theorem hd2.tw3770970180215259587 : True := trivial
theorem hd2.tw15012236959661361180 : True := trivial
theorem hd2.tw7160915840479329575 : True := trivial
theorem hd2.tw9392991333329767407 : True := trivial
theorem hd2.tw5150017175976815442 : True := trivial
theorem hd2.tw12554113690660838598 : True := trivial
theorem hd2.tw16705864983734344526 : True := trivial
theorem hd2.tw2938485121324201371 : True := trivial
theorem hd2.tw15094513730231002278 : True := trivial
theorem hd2.tw1143031499663966400 : True := trivial
theorem hd2.tw12473675025256444304 : True := trivial
theorem hd2.tw17070805993233229099 : True := trivial
theorem hd2.tw2400447374012550452 : True := trivial
theorem hd2.tw6493008303388371505 : True := trivial
theorem hd2.tw4866529548692751282 : True := trivial
theorem hd2.tw175109583173815259 : True := trivial
theorem hd2.tw17756555762872666094 : True := trivial
theorem hd2.tw2136888268932245013 : True := trivial
theorem hd2.tw4119842325727895288 : True := trivial
theorem hd2.tw7418778976871387198 : True := trivial
theorem hd2.tw5107720762453236676 : True := trivial
theorem hd2.tw347690199843504371 : True := trivial
theorem hd2.tw15090820541666047761 : True := trivial
theorem hd2.tw13384433437290512881 : True := trivial
theorem hd2.tw3644628795867374201 : True := trivial
theorem hd2.tw10210355968825124713 : True := trivial
theorem hd2.tw3428949384659299139 : True := trivial
theorem hd2.tw8740815711760575871 : True := trivial
theorem hd2.tw14833190768475372331 : True := trivial
theorem hd2.tw15161419035603776266 : True := trivial
theorem hd2.tw14482411036446648992 : True := trivial
theorem hd2.tw9191870808126483431 : True := trivial
theorem hd2.tw6078895482144250952 : True := trivial
theorem hd2.tw17642827509369153262 : True := trivial
theorem hd2.tw4490221034385390683 : True := trivial
theorem hd2.tw853132329937292617 : True := trivial
theorem hd2.tw7707443352642053235 : True := trivial
theorem hd2.tw16289564860063074514 : True := trivial
theorem hd2.tw12540007768381991573 : True := trivial
theorem hd2.tw18204742670103895974 : True := trivial
theorem hd2.tw5325368168493127446 : True := trivial
theorem hd2.tw8136452516250567496 : True := trivial
theorem hd2.tw10016016963278008859 : True := trivial
theorem hd2.tw9379307753897665584 : True := trivial
theorem hd2.tw17426767571067006024 : True := trivial
theorem hd2.tw6731557507878567012 : True := trivial
theorem hd2.tw8810766210930397849 : True := trivial
theorem hd2.tw9125875660321858707 : True := trivial
theorem hd2.tw18005265497134895539 : True := trivial
theorem hd2.tw7629001758538569082 : True := trivial
theorem hd2.tw11689101747017851002 : True := trivial
theorem hd2.tw14215010784067403019 : True := trivial
theorem hd2.tw1025421055911521426 : True := trivial
theorem hd2.tw7227874499729274788 : True := trivial
theorem hd2.tw12968067322439934425 : True := trivial
theorem hd2.tw472374276758196658 : True := trivial
theorem hd2.tw1910539815464360657 : True := trivial
theorem hd2.tw15110400335425447395 : True := trivial
theorem hd2.tw14583061340223629450 : True := trivial
theorem hd2.tw3726972912220129213 : True := trivial
theorem hd2.tw16039799792390380188 : True := trivial
theorem hd2.tw16368028136619872572 : True := trivial
theorem hd2.tw2726330823138623210 : True := trivial
theorem hd2.tw10111312136261894765 : True := trivial
theorem hd2.tw735458933024839418 : True := trivial
theorem hd2.tw3967235380511307983 : True := trivial
theorem hd2.tw4080911265041974390 : True := trivial
theorem hd2.tw12359412462722100798 : True := trivial
theorem hd2.tw7969290573346069145 : True := trivial
theorem hd2.tw7564388264429737131 : True := trivial
theorem hd2.tw9456787936508780256 : True := trivial
theorem hd2.tw13897164828918810706 : True := trivial
theorem hd2.tw763388331222703480 : True := trivial
theorem hd2.tw7949754368583153401 : True := trivial
theorem hd2.tw6805748051075538592 : True := trivial
theorem hd2.tw18424355597641598530 : True := trivial
theorem hd2.tw15644325043196869005 : True := trivial
theorem hd2.tw4577064228966388490 : True := trivial
theorem hd2.tw9462125650775789318 : True := trivial
theorem hd2.tw5571885335697301627 : True := trivial
theorem hd2.tw1003263641894823509 : True := trivial
theorem hd2.tw17310673366942436908 : True := trivial
theorem hd2.tw2183578610446070868 : True := trivial
theorem hd2.tw18312043876966400468 : True := trivial
theorem hd2.tw9578079572458828633 : True := trivial
theorem hd2.tw5033304294974805209 : True := trivial
theorem hd2.tw9520873710464607060 : True := trivial
theorem hd2.tw13818045471477145132 : True := trivial
theorem hd2.tw5460988448790992511 : True := trivial
theorem hd2.tw2623507075769074293 : True := trivial
theorem hd2.tw9692792143885581660 : True := trivial
theorem hd2.tw8212957566839840021 : True := trivial
theorem hd2.tw5460127783263432754 : True := trivial
theorem hd2.tw8883353303844530888 : True := trivial
theorem hd2.tw17313501335739172417 : True := trivial
theorem hd2.tw4001457511019473039 : True := trivial
theorem hd2.tw1489221534587847906 : True := trivial
theorem hd2.tw12287715041216286335 : True := trivial
theorem hd2.tw12397336453873556141 : True := trivial
theorem hd2.tw10394020385760895458 : True := trivial
theorem hd2.tw13105738992604535549 : True := trivial
theorem hd2.tw18412209470390293426 : True := trivial
theorem hd2.tw12430031964650438423 : True := trivial
theorem hd2.tw8278277071617436480 : True := trivial
theorem hd2.tw9566523955447782355 : True := trivial
theorem hd2.tw4222025404068306701 : True := trivial
theorem hd2.tw14214826911036437146 : True := trivial
theorem hd2.tw13886938771197069045 : True := trivial
theorem hd2.tw9915209177835332078 : True := trivial
theorem hd2.tw12329224695775602837 : True := trivial
theorem hd2.tw12021982944904547264 : True := trivial
theorem hd2.tw1780524305408681708 : True := trivial
theorem hd2.tw1664465370690311607 : True := trivial
theorem hd2.tw333428532814778521 : True := trivial
theorem hd2.tw18414555437323601860 : True := trivial
theorem hd2.tw332627713378957678 : True := trivial
theorem hd2.tw1076248274595971263 : True := trivial
theorem hd2.tw18367688861690720845 : True := trivial
theorem hd2.tw220303873396540773 : True := trivial
theorem hd2.tw15442742621554616747 : True := trivial
theorem hd2.tw8037438626129371291 : True := trivial
theorem hd2.tw12202340963882121764 : True := trivial
theorem hd2.tw15776288704453476735 : True := trivial
theorem hd2.tw13965542587233289564 : True := trivial
theorem hd2.tw5685695710063805533 : True := trivial
theorem hd2.tw12056406032019026765 : True := trivial
theorem hd2.tw17149979933336599690 : True := trivial
theorem hd2.tw15875007438419210801 : True := trivial
theorem hd2.tw6100942118235259184 : True := trivial
theorem hd2.tw4080356022357140193 : True := trivial
theorem hd2.tw2250516460714276958 : True := trivial
theorem hd2.tw8374826424178713577 : True := trivial
theorem hd2.tw12425546313617101910 : True := trivial
theorem hd2.tw2384611344033603184 : True := trivial
theorem hd2.tw14107931063387763046 : True := trivial
theorem hd2.tw11035997563127257983 : True := trivial
theorem hd2.tw15505365021111271095 : True := trivial
theorem hd2.tw13810677373062009955 : True := trivial
theorem hd2.tw6037777791403246197 : True := trivial
theorem hd2.tw4122118210242383125 : True := trivial
theorem hd2.tw5480762631216013933 : True := trivial
theorem hd2.tw7642066950433868171 : True := trivial
theorem hd2.tw16771186659309416472 : True := trivial
theorem hd2.tw5331086248898644504 : True := trivial
theorem hd2.tw17148534648249044995 : True := trivial
theorem hd2.tw10744454761256002685 : True := trivial
theorem hd2.tw13118601534558680972 : True := trivial
theorem hd2.tw402651304936567161 : True := trivial
theorem hd2.tw11733481668653251274 : True := trivial
theorem hd2.tw1543491443075369797 : True := trivial
theorem hd2.tw17959656718955774163 : True := trivial
theorem hd2.tw9234729168613717979 : True := trivial
theorem hd2.tw13959301642122579962 : True := trivial
theorem hd2.tw8946558206114420275 : True := trivial
theorem hd2.tw9025149566346154062 : True := trivial
theorem hd2.tw13228747514611909538 : True := trivial
theorem hd2.tw18051674379464018613 : True := trivial
theorem hd2.tw2341755709182678752 : True := trivial
theorem hd2.tw18199845917383768711 : True := trivial
theorem hd2.tw13207445499870322669 : True := trivial
theorem hd2.tw5307686306283629531 : True := trivial
theorem hd2.tw8896348904058947118 : True := trivial
theorem hd2.tw10991299664537860380 : True := trivial
theorem hd2.tw3097166518061201704 : True := trivial
theorem hd2.tw6189213310659382204 : True := trivial
theorem hd2.tw87145970435450675 : True := trivial
theorem hd2.tw250724271940551965 : True := trivial
theorem hd2.tw17996434886937848938 : True := trivial
theorem hd2.tw2623130213553390851 : True := trivial
theorem hd2.tw6238162074121691997 : True := trivial
theorem hd2.tw16738429296978607853 : True := trivial
theorem hd2.tw6425414723841885398 : True := trivial
theorem hd2.tw12039354725203210797 : True := trivial
theorem hd2.tw13378504776424976015 : True := trivial
theorem hd2.tw17660311688119852706 : True := trivial
theorem hd2.tw3356457310011230154 : True := trivial
theorem hd2.tw2132613098981253317 : True := trivial
theorem hd2.tw6826767385885957657 : True := trivial
theorem hd2.tw10301473994267353507 : True := trivial
theorem hd2.tw6314409780899576610 : True := trivial
theorem hd2.tw13196687325285212645 : True := trivial
theorem hd2.tw3290170478402461006 : True := trivial
theorem hd2.tw13697136855428582757 : True := trivial
theorem hd2.tw2949270455385409020 : True := trivial
theorem hd2.tw7233293890168616231 : True := trivial
theorem hd2.tw9996421656595275187 : True := trivial
theorem hd2.tw13768616753378389029 : True := trivial
theorem hd2.tw6758173574556093506 : True := trivial
theorem hd2.tw5928500721221391525 : True := trivial
theorem hd2.tw16791917572743975901 : True := trivial
theorem hd2.tw16551099636954766609 : True := trivial
theorem hd2.tw6393464757489032917 : True := trivial
theorem hd2.tw68177000274666502 : True := trivial
theorem hd2.tw12751814530280855791 : True := trivial
theorem hd2.tw1659498226363147240 : True := trivial
theorem hd2.tw2730380513944285303 : True := trivial
theorem hd2.tw10079752153212131570 : True := trivial
theorem hd2.tw2356631879924157746 : True := trivial
theorem hd2.tw2290168862997858206 : True := trivial
theorem hd2.tw15704134411841525942 : True := trivial
theorem hd2.tw4534884762438573884 : True := trivial
theorem hd2.tw17400982273105008932 : True := trivial
theorem hd2.tw3754236611259937069 : True := trivial
theorem hd2.tw10145672701043835974 : True := trivial
theorem hd2.tw14163117343867048754 : True := trivial
theorem hd2.tw6453274599589080968 : True := trivial
theorem hd2.tw7790720176581593280 : True := trivial
theorem hd2.tw11808630122568406616 : True := trivial
theorem hd2.tw9060343117491793834 : True := trivial
theorem hd2.tw8565642946129231086 : True := trivial
theorem hd2.tw5992752038692463406 : True := trivial
theorem hd2.tw17390366167985401986 : True := trivial
theorem hd2.tw3760199936562137997 : True := trivial
theorem hd2.tw13766031397551917571 : True := trivial
theorem hd2.tw2671421366383193887 : True := trivial
theorem hd2.tw16715680138880398560 : True := trivial
theorem hd2.tw16986057737839748948 : True := trivial
theorem hd2.tw3248076768158890728 : True := trivial
theorem hd2.tw13066682471060474813 : True := trivial
theorem hd2.tw251428691436539198 : True := trivial
theorem hd2.tw12528716281165417451 : True := trivial
theorem hd2.tw13312284275793813015 : True := trivial
theorem hd2.tw8309074012945944319 : True := trivial
theorem hd2.tw4359629333794791527 : True := trivial
theorem hd2.tw3157157067845663392 : True := trivial
theorem hd2.tw7878171269414896660 : True := trivial
theorem hd2.tw8651155517412177002 : True := trivial
theorem hd2.tw11751214582825821295 : True := trivial
theorem hd2.tw10600816321300380515 : True := trivial
theorem hd2.tw10241736188695546949 : True := trivial
theorem hd2.tw5900234849335412840 : True := trivial
theorem hd2.tw1913153513812597439 : True := trivial
theorem hd2.tw14980709473232062795 : True := trivial
theorem hd2.tw39921408350888404 : True := trivial
theorem hd2.tw2125352762925668449 : True := trivial
theorem hd2.tw10254093599156545313 : True := trivial
theorem hd2.tw11170455649990699809 : True := trivial
theorem hd2.tw9382941599035394523 : True := trivial
theorem hd2.tw90503261418583699 : True := trivial
theorem hd2.tw1619602396286557735 : True := trivial
theorem hd2.tw15173792691694676812 : True := trivial
theorem hd2.tw9331424139975595269 : True := trivial
theorem hd2.tw1950318576518641688 : True := trivial
theorem hd2.tw11081427018123450144 : True := trivial
theorem hd2.tw10447488145373037507 : True := trivial
theorem hd2.tw16621166106874831751 : True := trivial
theorem hd2.tw7954528345543446240 : True := trivial
theorem hd2.tw9759764543572696633 : True := trivial
theorem hd2.tw14030995433076686976 : True := trivial
theorem hd2.tw5371362170221720355 : True := trivial
theorem hd2.tw17089773408931481811 : True := trivial
theorem hd2.tw14061899002448637990 : True := trivial
theorem hd2.tw1299161043785182044 : True := trivial
theorem hd2.tw7120966341594110227 : True := trivial
theorem hd2.tw1808859036645578109 : True := trivial
theorem hd2.tw17852836457719039587 : True := trivial
theorem hd2.tw630263712332728518 : True := trivial
theorem hd2.tw24273440063783646 : True := trivial
theorem hd2.tw13400441405455996033 : True := trivial
theorem hd2.tw16455203134660202841 : True := trivial
theorem hd2.tw12801923539876774341 : True := trivial
theorem hd2.tw12441449224016976582 : True := trivial
theorem hd2.tw4814075503340770913 : True := trivial
theorem hd2.tw16071126181120082616 : True := trivial
theorem hd2.tw12851674626742466685 : True := trivial
theorem hd2.tw3785130402949710695 : True := trivial
theorem hd2.tw15813063200308927281 : True := trivial
theorem hd2.tw3168399777490588515 : True := trivial
theorem hd2.tw4564416937610578931 : True := trivial
theorem hd2.tw18385055089987311653 : True := trivial
theorem hd2.tw8561936677497543512 : True := trivial
theorem hd2.tw7144204963605084020 : True := trivial
theorem hd2.tw266489594127727277 : True := trivial
theorem hd2.tw13468385251864456823 : True := trivial
theorem hd2.tw10863047447990059690 : True := trivial
theorem hd2.tw8954779477399893388 : True := trivial
theorem hd2.tw2379820489670096217 : True := trivial
theorem hd2.tw13163191396762818039 : True := trivial
theorem hd2.tw2108963761862365243 : True := trivial
theorem hd2.tw10761583383445332310 : True := trivial
theorem hd2.tw3286963306034259099 : True := trivial
theorem hd2.tw14228697092420482526 : True := trivial
theorem hd2.tw2471624247503336145 : True := trivial
theorem hd2.tw1685360708467948208 : True := trivial
theorem hd2.tw12727422269933815505 : True := trivial
theorem hd2.tw2449889144314765574 : True := trivial
theorem hd2.tw18388333365271592090 : True := trivial
theorem hd2.tw17560658148252086775 : True := trivial
theorem hd2.tw15291320400113776184 : True := trivial
theorem hd2.tw11979136065424681370 : True := trivial
theorem hd2.tw13399429147189407172 : True := trivial
theorem hd2.tw11532536539183473556 : True := trivial
theorem hd2.tw11273763489211789340 : True := trivial
theorem hd2.tw8033734100024721556 : True := trivial
theorem hd2.tw13650851605640620520 : True := trivial
theorem hd2.tw6664305017935825339 : True := trivial
theorem hd2.tw6108121840772634480 : True := trivial
theorem hd2.tw3928792547660935197 : True := trivial
theorem hd2.tw7752372201841242672 : True := trivial
theorem hd2.tw12334366916241932031 : True := trivial
theorem hd2.tw3574309194180151348 : True := trivial
theorem hd2.tw15088383334532366670 : True := trivial
theorem hd2.tw3007781595536754481 : True := trivial
theorem hd2.tw6006181309005182836 : True := trivial
theorem hd2.tw885879240042707427 : True := trivial
theorem hd2.tw7345750952404487748 : True := trivial
theorem hd2.tw17633156079848835545 : True := trivial
theorem hd2.tw1976878416034951627 : True := trivial
theorem hd2.tw12911681607385855286 : True := trivial
theorem hd2.tw2550949332982093910 : True := trivial
theorem hd2.tw14817847412204066841 : True := trivial
theorem hd2.tw16891520828879567593 : True := trivial
theorem hd2.tw144796715100449909 : True := trivial
theorem hd2.tw1645592865072559638 : True := trivial
theorem hd2.tw1262596891074001743 : True := trivial
theorem hd2.tw7231501216720314558 : True := trivial
theorem hd2.tw12261198951166796687 : True := trivial
theorem hd2.tw4531247541445559991 : True := trivial
theorem hd2.tw8899499074579488126 : True := trivial
theorem hd2.tw5968184155959672710 : True := trivial
theorem hd2.tw3832869604955964373 : True := trivial
theorem hd2.tw7218881234511280956 : True := trivial
theorem hd2.tw8436607001355094974 : True := trivial
theorem hd2.tw2990069970978321087 : True := trivial
theorem hd2.tw1942724279473452841 : True := trivial
theorem hd2.tw18195350866518933986 : True := trivial
theorem hd2.tw9486560165477200163 : True := trivial
theorem hd2.tw6460417855620061073 : True := trivial
theorem hd2.tw11116610961157732531 : True := trivial
theorem hd2.tw165932365614257507 : True := trivial
theorem hd2.tw8880225664067160811 : True := trivial
theorem hd2.tw2990311732965359710 : True := trivial
theorem hd2.tw18193886166115899933 : True := trivial
theorem hd2.tw7010516460443940295 : True := trivial
theorem hd2.tw12434816809840249486 : True := trivial
theorem hd2.tw16276894076339556958 : True := trivial
theorem hd2.tw2507568540904757585 : True := trivial
theorem hd2.tw16838333467356614099 : True := trivial
theorem hd2.tw17523583173145177124 : True := trivial
theorem hd2.tw16268896297161741616 : True := trivial
theorem hd2.tw8156805644684496222 : True := trivial
theorem hd2.tw2959571601724771686 : True := trivial
theorem hd2.tw5436434674326394315 : True := trivial
theorem hd2.tw3856400816912930968 : True := trivial
theorem hd2.tw11564645500747994937 : True := trivial
theorem hd2.tw14157160328222140798 : True := trivial
theorem hd2.tw2689988413598670261 : True := trivial
theorem hd2.tw13309489205103631947 : True := trivial
theorem hd2.tw874560916049252497 : True := trivial
theorem hd2.tw1101091746711318275 : True := trivial
theorem hd2.tw9946955176753993942 : True := trivial
theorem hd2.tw10783180990234680451 : True := trivial
theorem hd2.tw5909614296626568523 : True := trivial
theorem hd2.tw13514766209153497511 : True := trivial
theorem hd2.tw13276971051547314204 : True := trivial
theorem hd2.tw1617209985155744843 : True := trivial
theorem hd2.tw9355145932706132611 : True := trivial
theorem hd2.tw17850146363913321964 : True := trivial
theorem hd2.tw9904148209474510085 : True := trivial
theorem hd2.tw562825812087946167 : True := trivial
theorem hd2.tw4390364239675586117 : True := trivial
theorem hd2.tw16494532263504362324 : True := trivial
theorem hd2.tw9161326649123853763 : True := trivial
theorem hd2.tw2239638238429186564 : True := trivial
theorem hd2.tw3996814622440940861 : True := trivial
theorem hd2.tw1352925565111561755 : True := trivial
theorem hd2.tw14788307984832979885 : True := trivial
theorem hd2.tw3463541937081877319 : True := trivial
theorem hd2.tw9736571768197607707 : True := trivial
theorem hd2.tw7022788759355470008 : True := trivial
theorem hd2.tw3901149335887042680 : True := trivial
theorem hd2.tw2684668154545160251 : True := trivial
theorem hd2.tw2229946536716435360 : True := trivial
theorem hd2.tw6929180021115898451 : True := trivial
theorem hd2.tw15231150651594951603 : True := trivial
theorem hd2.tw14561612689546069011 : True := trivial
theorem hd2.tw10451374286423379917 : True := trivial
theorem hd2.tw14359644812382096077 : True := trivial
theorem hd2.tw5293925431893719092 : True := trivial
theorem hd2.tw14887912832275674849 : True := trivial
theorem hd2.tw4698667572044295981 : True := trivial
theorem hd2.tw12784137488840344209 : True := trivial
theorem hd2.tw17007163370361508176 : True := trivial
theorem hd2.tw15335294912572790726 : True := trivial
theorem hd2.tw8174878930729498693 : True := trivial
theorem hd2.tw11387425415538479326 : True := trivial
theorem hd2.tw7482161738532038038 : True := trivial
theorem hd2.tw12088158544583717705 : True := trivial
theorem hd2.tw9823593496184237896 : True := trivial
theorem hd2.tw8065920497598899776 : True := trivial
theorem hd2.tw9274764419800243180 : True := trivial
theorem hd2.tw6552620590701305207 : True := trivial
theorem hd2.tw17983723125350281077 : True := trivial
theorem hd2.tw17585091517615628637 : True := trivial
theorem hd2.tw17163172455641472642 : True := trivial
theorem hd2.tw2748475603197274750 : True := trivial
theorem hd2.tw145378849551222249 : True := trivial
theorem hd2.tw12955129928793020960 : True := trivial
theorem hd2.tw17279129236621620279 : True := trivial
theorem hd2.tw12871402061124981736 : True := trivial
theorem hd2.tw15927985715750085026 : True := trivial
theorem hd2.tw12285395118360057016 : True := trivial
theorem hd2.tw11183817261355482642 : True := trivial
theorem hd2.tw11254760001960292566 : True := trivial
theorem hd2.tw11732071582820328563 : True := trivial
theorem hd2.tw2754725926177225702 : True := trivial
theorem hd2.tw7336012897913901986 : True := trivial
theorem hd2.tw13028336007167099608 : True := trivial
theorem hd2.tw13464015321323206389 : True := trivial
theorem hd2.tw7659593481955394455 : True := trivial
theorem hd2.tw14614402303477876967 : True := trivial
theorem hd2.tw10292797303067968931 : True := trivial
theorem hd2.tw1317804869592000110 : True := trivial
theorem hd2.tw13803362884178704999 : True := trivial
theorem hd2.tw6589875531382654678 : True := trivial
theorem hd2.tw5949954481375808876 : True := trivial
theorem hd2.tw8300267166159514990 : True := trivial
theorem hd2.tw17970763211266393018 : True := trivial
theorem hd2.tw5912733163219559911 : True := trivial
theorem hd2.tw8494310732496542795 : True := trivial
theorem hd2.tw12281287938356961532 : True := trivial
theorem hd2.tw9959126931459356995 : True := trivial
theorem hd2.tw17141678324896337450 : True := trivial
theorem hd2.tw16984706017506489574 : True := trivial
theorem hd2.tw16224822230647373906 : True := trivial
theorem hd2.tw11229678519156346662 : True := trivial
theorem hd2.tw13199955094723717859 : True := trivial
theorem hd2.tw666060133377086199 : True := trivial
theorem hd2.tw323464698675671583 : True := trivial
theorem hd2.tw6392859193120982511 : True := trivial
theorem hd2.tw13416209588431931915 : True := trivial
theorem hd2.tw9424753427725926497 : True := trivial
theorem hd2.tw15347626620511630790 : True := trivial
theorem hd2.tw8820833757433601248 : True := trivial
theorem hd2.tw4379734734231960072 : True := trivial
theorem hd2  : PySem.Challenge.rw_ok0150_01.Holds := by
  w_on
  o_law
  k_head
  (case hw => w_witness2)
  refine walk_gen _ rfl (fun w h y => kIn_of y) fun P => ?_
  exact {
    n := by kernel_rfl
    h := by kernel_rfl
    g := by kernel_rfl
    f := ⟨⟨by kernel_rfl, by kernel_rfl, by kernel_rfl, by kernel_rfl, by refine arS fun a => ?_; refine arS fun b => ?_; exact ar0 (by kernel_rfl)⟩,
      ⟨by kernel_rfl, by kernel_rfl, by kernel_rfl, by kernel_rfl, by refine arS fun a => ?_; refine arS fun b => ?_; refine arS fun c => ?_; refine arS fun d => ?_; refine arS fun e => ?_; refine arS fun f => ?_; refine arS fun g => ?_; exact ar0 (by kernel_rfl)⟩,
      ⟨by kernel_rfl, by kernel_rfl, by kernel_rfl, by kernel_rfl, by refine arS fun a => ?_; refine arS fun b => ?_; refine arS fun c => ?_; exact ar0 (by kernel_rfl)⟩,
      ⟨by kernel_rfl, by kernel_rfl, by kernel_rfl, by kernel_rfl, by refine arS fun a => ?_; refine arS fun b => ?_; exact ar0 (by kernel_rfl)⟩,
      ⟨by kernel_rfl, by kernel_rfl, by kernel_rfl, by kernel_rfl, by refine arS fun a => ?_; refine arS fun b => ?_; exact ar0 (by kernel_rfl)⟩,
      ⟨by kernel_rfl, by kernel_rfl, by kernel_rfl, by kernel_rfl, by refine arS fun a => ?_; exact ar0 (by kernel_rfl)⟩,
      ⟨by kernel_rfl, by kernel_rfl, by kernel_rfl, by kernel_rfl, by refine arS fun a => ?_; refine arS fun b => ?_; exact ar0 (by kernel_rfl)⟩,
      ⟨by kernel_rfl, by kernel_rfl, by kernel_rfl, by kernel_rfl, by refine arS fun a => ?_; exact ar0 (by kernel_rfl)⟩,
      ⟨by kernel_rfl, by kernel_rfl, by kernel_rfl, by kernel_rfl, by refine arS fun a => ?_; exact ar0 (by kernel_rfl)⟩,
      ⟨by kernel_rfl, by kernel_rfl, by kernel_rfl, by kernel_rfl, by refine arS fun a => ?_; refine arS fun b => ?_; exact ar0 (by kernel_rfl)⟩,
      ⟨by kernel_rfl, by kernel_rfl, by kernel_rfl, by kernel_rfl, by refine arS fun a => ?_; refine arS fun b => ?_; refine arS fun c => ?_; exact ar0 (by kernel_rfl)⟩,
      ⟨by kernel_rfl, by kernel_rfl, by kernel_rfl, by kernel_rfl, by refine arS fun a => ?_; refine arS fun b => ?_; refine arS fun c => ?_; refine arS fun d => ?_; exact ar0 (by kernel_rfl)⟩,
      ⟨by kernel_rfl, by kernel_rfl, by kernel_rfl, by kernel_rfl, by refine arS fun a => ?_; refine arS fun b => ?_; refine arS fun c => ?_; exact ar0 (by kernel_rfl)⟩,
      ⟨by kernel_rfl, by kernel_rfl, by kernel_rfl, by kernel_rfl, by refine arS fun a => ?_; refine arS fun b => ?_; refine arS fun c => ?_; refine arS fun d => ?_; exact ar0 (by kernel_rfl)⟩,
      ⟨by kernel_rfl, by kernel_rfl, by kernel_rfl, by kernel_rfl, by refine arS fun a => ?_; refine arS fun b => ?_; exact ar0 (by kernel_rfl)⟩,
      ⟨by kernel_rfl, by kernel_rfl, by kernel_rfl, by kernel_rfl, by refine arS fun a => ?_; refine arS fun b => ?_; exact ar0 (by kernel_rfl)⟩,
      ⟨by kernel_rfl, by kernel_rfl, by kernel_rfl, by kernel_rfl, by refine arS fun a => ?_; refine arS fun b => ?_; exact ar0 (by kernel_rfl)⟩,
      ⟨by kernel_rfl, by kernel_rfl, by kernel_rfl, by kernel_rfl, by refine arS fun a => ?_; refine arS fun b => ?_; exact ar0 (by kernel_rfl)⟩,
      ⟨by kernel_rfl, by kernel_rfl, by kernel_rfl, by kernel_rfl, by refine arS fun a => ?_; refine arS fun b => ?_; refine arS fun c => ?_; refine arS fun d => ?_; refine arS fun e => ?_; exact ar0 (by kernel_rfl)⟩,
      ⟨by kernel_rfl, by kernel_rfl, by kernel_rfl, by kernel_rfl, by refine arS fun a => ?_; refine arS fun b => ?_; exact ar0 (by kernel_rfl)⟩,
      ⟨by kernel_rfl, by kernel_rfl, by kernel_rfl, by kernel_rfl, by refine arS fun a => ?_; exact ar0 (by kernel_rfl)⟩,
      ⟨by kernel_rfl, by kernel_rfl, by kernel_rfl, by kernel_rfl, by refine arS fun a => ?_; refine arS fun b => ?_; refine arS fun c => ?_; exact ar0 (by kernel_rfl)⟩,
      ⟨by kernel_rfl, by kernel_rfl, by kernel_rfl, by kernel_rfl, by refine arS fun a => ?_; refine arS fun b => ?_; refine arS fun c => ?_; refine arS fun d => ?_; exact ar0 (by kernel_rfl)⟩,
      ⟨by kernel_rfl, by kernel_rfl, by kernel_rfl, by kernel_rfl, by refine arS fun a => ?_; refine arS fun b => ?_; refine arS fun c => ?_; refine arS fun d => ?_; exact ar0 (by kernel_rfl)⟩,
      ⟨by kernel_rfl, by kernel_rfl, by kernel_rfl, by kernel_rfl, by refine arS fun a => ?_; refine arS fun b => ?_; exact ar0 (by kernel_rfl)⟩,
      ⟨by kernel_rfl, by kernel_rfl, by kernel_rfl, by kernel_rfl, by refine arS fun a => ?_; exact ar0 (by kernel_rfl)⟩,
      ⟨by kernel_rfl, by kernel_rfl, by kernel_rfl, by kernel_rfl, by refine arS fun a => ?_; refine arS fun b => ?_; exact ar0 (by kernel_rfl)⟩,
      ⟨by kernel_rfl, by kernel_rfl, by kernel_rfl, by kernel_rfl, by refine arS fun a => ?_; refine arS fun b => ?_; refine arS fun c => ?_; exact ar0 (by kernel_rfl)⟩,
      ⟨by kernel_rfl, by kernel_rfl, by kernel_rfl, by kernel_rfl, by refine arS fun a => ?_; refine arS fun b => ?_; refine arS fun c => ?_; exact ar0 (by kernel_rfl)⟩,
      ⟨by kernel_rfl, by kernel_rfl, by kernel_rfl, by kernel_rfl, by refine arS fun a => ?_; refine arS fun b => ?_; refine arS fun c => ?_; refine arS fun d => ?_; refine arS fun e => ?_; refine arS fun f => ?_; exact ar0 (by kernel_rfl)⟩,
      ⟨by kernel_rfl, by kernel_rfl, by kernel_rfl, by kernel_rfl, by refine arS fun a => ?_; refine arS fun b => ?_; exact ar0 (by kernel_rfl)⟩,
      ⟨by kernel_rfl, by kernel_rfl, by kernel_rfl, by kernel_rfl, by refine arS fun a => ?_; refine arS fun b => ?_; refine arS fun c => ?_; refine arS fun d => ?_; refine arS fun e => ?_; exact ar0 (by kernel_rfl)⟩,
      ⟨by kernel_rfl, by kernel_rfl, by kernel_rfl, by kernel_rfl, by refine arS fun a => ?_; refine arS fun b => ?_; exact ar0 (by kernel_rfl)⟩,
      ⟨by kernel_rfl, by kernel_rfl, by kernel_rfl, by kernel_rfl, by refine arS fun a => ?_; exact ar0 (by kernel_rfl)⟩,
      ⟨by kernel_rfl, by kernel_rfl, by kernel_rfl, by kernel_rfl, by refine arS fun a => ?_; exact ar0 (by kernel_rfl)⟩, trivial⟩
    m := ⟨⟨by kernel_rfl, by kernel_rfl, by kernel_rfl, by kernel_rfl, by refine arS fun a => ?_; refine arS fun b => ?_; refine arS fun c => ?_; refine arS fun d => ?_; exact ar0 (by kernel_rfl)⟩,
      ⟨by kernel_rfl, by kernel_rfl, by kernel_rfl, by kernel_rfl, by refine arS fun a => ?_; refine arS fun b => ?_; exact ar0 (by kernel_rfl)⟩,
      ⟨by kernel_rfl, by kernel_rfl, by kernel_rfl, by kernel_rfl, by refine arS fun a => ?_; refine arS fun b => ?_; exact ar0 (by kernel_rfl)⟩,
      ⟨by kernel_rfl, by kernel_rfl, by kernel_rfl, by kernel_rfl, by refine arS fun a => ?_; refine arS fun b => ?_; exact ar0 (by kernel_rfl)⟩,
      ⟨by kernel_rfl, by kernel_rfl, by kernel_rfl, by kernel_rfl, by refine arS fun a => ?_; refine arS fun b => ?_; refine arS fun c => ?_; refine arS fun d => ?_; refine arS fun e => ?_; exact ar0 (by kernel_rfl)⟩,
      ⟨by kernel_rfl, by kernel_rfl, by kernel_rfl, by kernel_rfl, by refine arS fun a => ?_; refine arS fun b => ?_; refine arS fun c => ?_; refine arS fun d => ?_; refine arS fun e => ?_; refine arS fun f => ?_; refine arS fun g => ?_; exact ar0 (by kernel_rfl)⟩,
      ⟨by kernel_rfl, by kernel_rfl, by kernel_rfl, by kernel_rfl, by refine arS fun a => ?_; exact ar0 (by kernel_rfl)⟩,
      ⟨by kernel_rfl, by kernel_rfl, by kernel_rfl, by kernel_rfl, by refine arS fun a => ?_; exact ar0 (by kernel_rfl)⟩,
      ⟨by kernel_rfl, by kernel_rfl, by kernel_rfl, by kernel_rfl, by refine arS fun a => ?_; exact ar0 (by kernel_rfl)⟩,
      ⟨by kernel_rfl, by kernel_rfl, by kernel_rfl, by kernel_rfl, by refine arS fun a => ?_; exact ar0 (by kernel_rfl)⟩,
      ⟨by kernel_rfl, by kernel_rfl, by kernel_rfl, by kernel_rfl, by refine arS fun a => ?_; refine arS fun b => ?_; exact ar0 (by kernel_rfl)⟩,
      ⟨by kernel_rfl, by kernel_rfl, by kernel_rfl, by kernel_rfl, by refine arS fun a => ?_; refine arS fun b => ?_; exact ar0 (by kernel_rfl)⟩,
      ⟨by kernel_rfl, by kernel_rfl, by kernel_rfl, by kernel_rfl, by refine arS fun a => ?_; refine arS fun b => ?_; exact ar0 (by kernel_rfl)⟩,
      ⟨by kernel_rfl, by kernel_rfl, by kernel_rfl, by kernel_rfl, by refine arS fun a => ?_; refine arS fun b => ?_; exact ar0 (by kernel_rfl)⟩,
      ⟨by kernel_rfl, by kernel_rfl, by kernel_rfl, by kernel_rfl, by refine arS fun a => ?_; refine arS fun b => ?_; refine arS fun c => ?_; refine arS fun d => ?_; exact ar0 (by kernel_rfl)⟩,
      ⟨by kernel_rfl, by kernel_rfl, by kernel_rfl, by kernel_rfl, by refine arS fun a => ?_; refine arS fun b => ?_; refine arS fun c => ?_; refine arS fun d => ?_; refine arS fun e => ?_; exact ar0 (by kernel_rfl)⟩, trivial⟩
    e := by kernel_rfl
    c := by kernel_rfl
    d := by kernel_rfl
    a := by kernel_rfl
    i := by kernel_rfl
    s := by kernel_rfl
    x := by kernel_rfl
    sF := ⟨by kernel_rfl, by kernel_rfl, by kernel_rfl, by kernel_rfl, by refine arS fun a => ?_; refine arS fun b => ?_; exact ar0 (by kernel_rfl)⟩
  }
end Mine
theorem PySem.Challenge.cw_ok0150_01_holds : PySem.Challenge.rw_ok0150_01.Holds :=
  Mine.hd2
