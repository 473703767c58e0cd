import PyProof.Rows.All
import Wide.All
import OpenK.AllK
import Wide.FinOn
import HandS.Base
import HandS.Exc
import HandS.TryMany
import HandS.CallSlots
import HandS.Lambda
import HandS.Flow
import HandS.List
import HandS.Text
import HandS.ExcOwn
import HandS.Words
import HandS.Comp
import HandS.Defaults
import HandS.TupAny
import HandS.IsInst
import HandS.Dict
import HandS.Deep
import HandS.Iter
import KE.GoesNew
import KE.GoesMore
import HandS.HeadHook1
import HandS.HeadHook2
import HandS.HeadHook4
import HandS.MakeKwOnly
import HandS.Property
import KE.KExcSuper
import HandS.ExcInit
import HandS.RaiseMore
import HandS.Head0
import HandS.Head1
import HandS.Head2
import HandS.HeadWalk
import HandS.HeadEnd
import HandS.ExcField
import PySem.Challenge.RW_onlyahead_k24_great_circuits
import HandS.Nested
import HandS.NestedHot
import HandS.HotCalls
import HandS.Replace
import HandS.FStr
import HandS.OwnEq
import KE.GoesEnumKw
import HandS.More
import HandS.SortInts
import HandS.SetFor
import HandS.Strs
import HandS.Style
import PyProof.TupleOfSeq
import HandS.Conv
import KE.DatumOrd
import PyProof.StrOps2
set_option Elab.async false
set_option linter.all false
set_option maxRecDepth 100000
set_option maxHeartbeats 0
/-! DL0: data as trees, a store of things that change, and how the abstract heap bears them. -/
namespace DL
open PySem L2
/-- a lambda of the text: id tells it from the others; par: its parameter, that has a default -/
structure LamI where
  id : Nat
  qual : Str
  params : Arguments
  body : Expr
  scope : Scope
  par : Option Str
/-- a function object that a lambda made: its cells by name cl, its code at c, its defaults dV -/
abbrev lamFd (l : LamI) (cl : List (Str × Addr)) (c : Addr) (dV pm ctv : Value) : FuncData := { name := "<lambda>", qualname := l.qual, params := l.params, body := .expr l.body, scope := l.scope, globals := mainGlobals, closure := cloFrom cl l.scope.names [], defaults := dV, kwdefaults := .none, doc := .none, pyModule := pm, annotations := none, code := .ref c, closureTuple := ctv, builtins := builtinsNs }
def FnO (l : LamI) (f : Addr) (cl : List (Str × Addr)) (c : Addr) (dV : Value) : HO := .ext fun h => ∃ pm ctv, h.get? f = some ({ cls := .type "function", data := .func (lamFd l cl c dV pm ctv) } : Obj)
def DflO (T : Addr) : HO := .ext fun h => ∃ t : Tok, h.get? T = some ({ cls := .type "tuple", data := .seq #[.int 0 t] } : Obj)
def FnAt (H : Hp) (l : LamI) (cl : List (Str × Addr)) (f : Addr) : Prop := ∃ c dV, H f = some (FnO l f cl c dV) ∧ H c = some (LamX.CodeO c l.qual) ∧ ((dV = .none ∧ l.par = none) ∨ ∃ T, dV = .ref T ∧ H T = some (DflO T) ∧ l.par ≠ none)
/-- data: trees of what never changes, and the places (cells) of what does -/
inductive Dat where
  | non | bl (b : Bool) | int (i : Int) | str (s : Str)
  | lst (xs : List Dat) | tup (xs : List Dat)
  | dct (ks : List Key) (xs : List Dat)
  | dtt (ks : List (List Key)) (xs : List Dat)
  | sq (K : PySem.W.Frag) (ns : List Int)
  | ins (C : Addr) (ns : List Str) (xs : List Dat)
  | xd (ns : List Str) (xs : List Dat)
  | cell (n : Nat)
  | raw (v : V)
  | fn (l : LamI) (cl : List (Str × Addr))
  | exv (a d : Addr) (ns : List Str) (xs : List Dat)
mutual
/-- d is borne by v: R are the addresses that no tree may touch, rho the places of the cells -/
def RD (H : Hp) (R rho : List Addr) : Dat → V → Prop
  | .non, v => v = .non
  | .bl b, v => v = .bl b
  | .int i, v => v = .int i
  | .str s, v => v = .str s
  | .lst xs, v => ∃ a vs, v = .ref a ∧ a ∉ R ∧ H a = some (.lst vs) ∧ RDs H R rho xs vs
  | .tup xs, v => ∃ a vs, v = .ref a ∧ a ∉ R ∧ H a = some (.tup vs) ∧ RDs H R rho xs vs
  | .dct ks xs, v => ∃ a vs, v = .ref a ∧ a ∉ R ∧ Rd H a (.dK (ks.zip vs)) ∧ ks.length = vs.length ∧ RDs H R rho xs vs
  | .dtt ks xs, v => ∃ a vs, v = .ref a ∧ a ∉ R ∧ Rd H a (.dT (ks.zip vs)) ∧ ks.length = vs.length ∧ RDs H R rho xs vs
  | .sq K ns, v => ∃ a, v = .ref a ∧ ((a ∉ R ∧ Rd H a (.lst (ns.map V.int))) ∨ SqL K (fun _ => none) a (ns.map V.int))
  | .ins C ns xs, v => ∃ a dx vs, v = .ref a ∧ a ∉ R ∧ H a = some (.ins C dx (ns.zip vs)) ∧ ns.length = vs.length ∧ RDs H R rho xs vs
  | .xd ns xs, v => ∃ a vs, v = .ref a ∧ a ∉ R ∧ H a = some (.xd (ns.zip vs)) ∧ ns.length = vs.length ∧ RDs H R rho xs vs
  | .cell n, v => ∃ a, rho[n]? = some a ∧ v = .ref a
  | .raw w, v => v = w
  | .fn l cl, v => ∃ f, v = .ref f ∧ FnAt H l cl f
  | .exv a d ns xs, v => v = .ref a ∧ ∃ vs, d ∉ R ∧ H d = some (.xd (ns.zip vs)) ∧ ns.length = vs.length ∧ RDs H R rho xs vs
def RDs (H : Hp) (R rho : List Addr) : List Dat → List V → Prop
  | [], vs => vs = []
  | d :: ds, vs => ∃ w ws, vs = w :: ws ∧ RD H R rho d w ∧ RDs H R rho ds ws
end
mutual
/-- all cells lie below n -/
def below (n : Nat) : Dat → Prop
  | .non => True | .bl _ => True | .int _ => True | .str _ => True | .raw _ => True
  | .sq _ _ => True | .lst xs => belows n xs | .tup xs => belows n xs | .dct _ xs => belows n xs | .dtt _ xs => belows n xs | .ins _ _ xs => belows n xs | .xd _ xs => belows n xs
  | .cell m => m < n
  | .fn _ _ => True | .exv _ _ _ xs => belows n xs
def belows (n : Nat) : List Dat → Prop
  | [] => True
  | d :: ds => below n d ∧ belows n ds
end
section
variable {H H' : Hp} {R R' rho rho' : List Addr}
theorem rd_some {a : Addr} {u : HO} (h : Rd H a u) : ∃ o, H a = some o := by
  rcases h with h | ⟨o, h⟩
  · exact ⟨_, h⟩
  · exact ⟨_, h⟩
theorem rd_keep {a : Addr} {u : HO} (h : Rd H a u) (hu : ∀ ps, u ≠ .tbl ps) (he : ∀ P, u ≠ .ext P) (k : ∀ o, H a = some o → (∀ ps, o ≠ .tbl ps) → (∀ P, o ≠ .ext P) → H' a = some o) : Rd H' a u := by
  rcases h with h | ⟨o, h⟩
  · exact .inl (k _ h hu he)
  · exact .inr ⟨o, k _ h (fun ps z => by cases z) fun ps z => by cases z⟩
theorem FnAt.mono (m : ∀ a P, H a = some (.ext P) → H' a = some (.ext P)) {l : LamI} {cl : List (Str × Addr)} {f : Addr} (h : FnAt H l cl f) : FnAt H' l cl f := by
  obtain ⟨c, dV, h1, h2, h3⟩ := h
  refine ⟨c, dV, m _ _ h1, m _ _ h2, ?_⟩
  rcases h3 with h3 | ⟨T, e, h3, h4⟩
  · exact .inl h3
  · exact .inr ⟨T, e, m _ _ h3, h4⟩
/-- what R and rho mean may grow -/
structure Mono (H H' : Hp) (R R' rho rho' : List Addr) : Prop where
  keep : ∀ a o, a ∉ R → H a = some o → (∀ ps, o ≠ .tbl ps) → (∀ P, o ≠ .ext P) → H' a = some o
  more : ∀ a, a ∈ R' → a ∈ R ∨ H a = none
  cell : ∀ (n : Nat) a, rho[n]? = some a → rho'[n]? = some a
  fnk : ∀ l cl f, FnAt H l cl f → FnAt H' l cl f
theorem Mono.out (m : Mono H H' R R' rho rho') {a : Addr} (h : a ∉ R) (e : ∃ o, H a = some o) : a ∉ R' := fun z => by
  rcases m.more a z with q | q
  · exact h q
  · obtain ⟨o, e⟩ := e
    rw [q] at e
    cases e
mutual
theorem RD.mono (m : Mono H H' R R' rho rho') : ∀ {d : Dat} {v : V}, RD H R rho d v → RD H' R' rho' d v
  | .non, _, h => by simp only [RD] at h ⊢; exact h
  | .bl _, _, h => by simp only [RD] at h ⊢; exact h
  | .int _, _, h => by simp only [RD] at h ⊢; exact h
  | .str _, _, h => by simp only [RD] at h ⊢; exact h
  | .raw _, _, h => by simp only [RD] at h ⊢; exact h
  | .lst xs, _, h => by
    simp only [RD] at h ⊢
    obtain ⟨a, vs, e, ha, hr, hs⟩ := h
    exact ⟨a, vs, e, m.out ha ⟨_, hr⟩, m.keep a _ ha hr (fun ps z => by cases z) (fun ps z => by cases z), RDs.mono m hs⟩
  | .tup xs, _, h => by
    simp only [RD] at h ⊢
    obtain ⟨a, vs, e, ha, hr, hs⟩ := h
    exact ⟨a, vs, e, m.out ha ⟨_, hr⟩, m.keep a _ ha hr (fun ps z => by cases z) (fun ps z => by cases z), RDs.mono m hs⟩
  | .dct ks xs, _, h => by
    simp only [RD] at h ⊢
    obtain ⟨a, vs, e, ha, hr, hl, hs⟩ := h
    exact ⟨a, vs, e, m.out ha (rd_some hr), rd_keep hr (fun ps z => by cases z) (fun ps z => by cases z) fun o q => m.keep a o ha q, hl, RDs.mono m hs⟩
  | .dtt ks xs, _, h => by
    simp only [RD] at h ⊢
    obtain ⟨a, vs, e, ha, hr, hl, hs⟩ := h
    exact ⟨a, vs, e, m.out ha (rd_some hr), rd_keep hr (fun ps z => by cases z) (fun ps z => by cases z) fun o q => m.keep a o ha q, hl, RDs.mono m hs⟩
  | .sq K ns, _, h => by
    simp only [RD] at h ⊢
    obtain ⟨a, e, h⟩ := h
    refine ⟨a, e, ?_⟩
    rcases h with ⟨ha, hr⟩ | h
    · exact .inl ⟨m.out ha (rd_some hr), rd_keep hr (fun ps z => by cases z) (fun ps z => by cases z) fun o q => m.keep a o ha q⟩
    · exact .inr h
  | .ins C ns xs, _, h => by
    simp only [RD] at h ⊢
    obtain ⟨a, dx, vs, e, ha, hr, hl, hs⟩ := h
    exact ⟨a, dx, vs, e, m.out ha ⟨_, hr⟩, m.keep a _ ha hr (fun ps z => by cases z) (fun ps z => by cases z), hl, RDs.mono m hs⟩
  | .xd ns xs, _, h => by
    simp only [RD] at h ⊢
    obtain ⟨a, vs, e, ha, hr, hl, hs⟩ := h
    exact ⟨a, vs, e, m.out ha ⟨_, hr⟩, m.keep a _ ha hr (fun ps z => by cases z) (fun ps z => by cases z), hl, RDs.mono m hs⟩
  | .cell n, _, h => by
    simp only [RD] at h ⊢
    obtain ⟨a, ha, e⟩ := h
    exact ⟨a, m.cell n a ha, e⟩
  | .fn l cl, _, h => by
    simp only [RD] at h ⊢
    obtain ⟨f, e, h⟩ := h
    exact ⟨f, e, m.fnk _ _ _ h⟩
  | .exv a d ns xs, _, h => by
    simp only [RD] at h ⊢
    obtain ⟨e, vs, hd, h2, hl, hs⟩ := h
    exact ⟨e, vs, m.out hd ⟨_, h2⟩, m.keep d _ hd h2 (fun ps z => by cases z) (fun ps z => by cases z), hl, RDs.mono m hs⟩
theorem RDs.mono (m : Mono H H' R R' rho rho') : ∀ {ds : List Dat} {vs : List V}, RDs H R rho ds vs → RDs H' R' rho' ds vs
  | [], _, h => by simp only [RDs] at h ⊢; exact h
  | d :: ds, _, h => by
    simp only [RDs] at h ⊢
    obtain ⟨w, ws, e, h1, h2⟩ := h
    exact ⟨w, ws, e, RD.mono m h1, RDs.mono m h2⟩
end
mutual
theorem RD.below : ∀ {d : Dat} {v : V}, RD H R rho d v → below rho.length d
  | .non, _, h => by simp only [DL.below]
  | .bl _, _, h => by simp only [DL.below]
  | .int _, _, h => by simp only [DL.below]
  | .str _, _, h => by simp only [DL.below]
  | .raw _, _, h => by simp only [DL.below]
  | .lst xs, _, h => by
    simp only [RD] at h; simp only [DL.below]
    obtain ⟨a, vs, e, ha, hr, hs⟩ := h
    exact RDs.belows hs
  | .tup xs, _, h => by
    simp only [RD] at h; simp only [DL.below]
    obtain ⟨a, vs, e, ha, hr, hs⟩ := h
    exact RDs.belows hs
  | .dct ks xs, _, h => by
    simp only [RD] at h; simp only [DL.below]
    obtain ⟨a, vs, e, ha, hr, hl, hs⟩ := h
    exact RDs.belows hs
  | .dtt ks xs, _, h => by
    simp only [RD] at h; simp only [DL.below]
    obtain ⟨a, vs, e, ha, hr, hl, hs⟩ := h
    exact RDs.belows hs
  | .sq _ _, _, _ => by simp only [DL.below]
  | .ins C ns xs, _, h => by
    simp only [RD] at h; simp only [DL.below]
    obtain ⟨a, dx, vs, e, ha, hr, hl, hs⟩ := h
    exact RDs.belows hs
  | .xd ns xs, _, h => by
    simp only [RD] at h; simp only [DL.below]
    obtain ⟨a, vs, e, ha, hr, hl, hs⟩ := h
    exact RDs.belows hs
  | .cell n, _, h => by
    simp only [RD] at h; simp only [DL.below]
    obtain ⟨a, ha, e⟩ := h
    exact (List.getElem?_eq_some_iff.mp ha).1
  | .fn _ _, _, _ => by simp only [DL.below]
  | .exv a d ns xs, _, h => by
    simp only [RD] at h; simp only [DL.below]
    obtain ⟨e, vs, hd, h2, hl, hs⟩ := h
    exact RDs.belows hs
theorem RDs.belows : ∀ {ds : List Dat} {vs : List V}, RDs H R rho ds vs → belows rho.length ds
  | [], _, h => by simp only [DL.belows]
  | d :: ds, _, h => by
    simp only [RDs] at h; simp only [DL.belows]
    obtain ⟨w, ws, e, h1, h2⟩ := h
    exact ⟨RD.below h1, RDs.belows h2⟩
end
mutual
theorem RD.trim {n : Nat} (hR : ∀ a, a ∈ R' → a ∈ R) : ∀ {d : Dat} {v : V}, RD H R rho d v → below n d → RD H R' (rho.take n) d v
  | .non, _, h, _ => by simp only [RD] at h ⊢; exact h
  | .bl _, _, h, _ => by simp only [RD] at h ⊢; exact h
  | .int _, _, h, _ => by simp only [RD] at h ⊢; exact h
  | .str _, _, h, _ => by simp only [RD] at h ⊢; exact h
  | .raw _, _, h, _ => by simp only [RD] at h ⊢; exact h
  | .lst xs, _, h, b => by
    simp only [RD] at h ⊢; simp only [DL.below] at b
    obtain ⟨a, vs, e, ha, hr, hs⟩ := h
    exact ⟨a, vs, e, fun z => ha (hR a z), hr, RDs.trim hR hs b⟩
  | .tup xs, _, h, b => by
    simp only [RD] at h ⊢; simp only [DL.below] at b
    obtain ⟨a, vs, e, ha, hr, hs⟩ := h
    exact ⟨a, vs, e, fun z => ha (hR a z), hr, RDs.trim hR hs b⟩
  | .dct ks xs, _, h, b => by
    simp only [RD] at h ⊢; simp only [DL.below] at b
    obtain ⟨a, vs, e, ha, hr, hl, hs⟩ := h
    exact ⟨a, vs, e, fun z => ha (hR a z), hr, hl, RDs.trim hR hs b⟩
  | .dtt ks xs, _, h, b => by
    simp only [RD] at h ⊢; simp only [DL.below] at b
    obtain ⟨a, vs, e, ha, hr, hl, hs⟩ := h
    exact ⟨a, vs, e, fun z => ha (hR a z), hr, hl, RDs.trim hR hs b⟩
  | .sq K ns, _, h, _ => by
    simp only [RD] at h ⊢
    obtain ⟨a, e, h⟩ := h
    refine ⟨a, e, ?_⟩
    rcases h with ⟨ha, hr⟩ | h
    · exact .inl ⟨fun z => ha (hR a z), hr⟩
    · exact .inr h
  | .ins C ns xs, _, h, b => by
    simp only [RD] at h ⊢; simp only [DL.below] at b
    obtain ⟨a, dx, vs, e, ha, hr, hl, hs⟩ := h
    exact ⟨a, dx, vs, e, fun z => ha (hR a z), hr, hl, RDs.trim hR hs b⟩
  | .xd ns xs, _, h, b => by
    simp only [RD] at h ⊢; simp only [DL.below] at b
    obtain ⟨a, vs, e, ha, hr, hl, hs⟩ := h
    exact ⟨a, vs, e, fun z => ha (hR a z), hr, hl, RDs.trim hR hs b⟩
  | .cell m, _, h, b => by
    simp only [RD] at h ⊢; simp only [DL.below] at b
    obtain ⟨a, ha, e⟩ := h
    exact ⟨a, by rw [List.getElem?_take, if_pos b]; exact ha, e⟩
  | .fn l cl, _, h, _ => by
    simp only [RD] at h ⊢
    exact h
  | .exv a d ns xs, _, h, b => by
    simp only [RD] at h ⊢; simp only [DL.below] at b
    obtain ⟨e, vs, hd, h2, hl, hs⟩ := h
    exact ⟨e, vs, fun z => hd (hR d z), h2, hl, RDs.trim hR hs b⟩
theorem RDs.trim {n : Nat} (hR : ∀ a, a ∈ R' → a ∈ R) : ∀ {ds : List Dat} {vs : List V}, RDs H R rho ds vs → belows n ds → RDs H R' (rho.take n) ds vs
  | [], _, h, _ => by simp only [RDs] at h ⊢; exact h
  | d :: ds, _, h, b => by
    simp only [RDs] at h ⊢; simp only [DL.belows] at b
    obtain ⟨w, ws, e, h1, h2⟩ := h
    exact ⟨w, ws, e, RD.trim hR h1 b.1, RDs.trim hR h2 b.2⟩
end
end
end DL
/-! DL1: the state: live pairs L, the store S, pinned objects T. -/
namespace DL
open PySem L2
abbrev LL := V → Dat → Prop
/-- what stands at a cell -/
def Node (H : Hp) (R rho : List Addr) (a : Addr) : Dat → Prop
  | .lst xs => ∃ vs, H a = some (.lst vs) ∧ RDs H R rho xs vs
  | .dct ks xs => ∃ vs, H a = some (.dK (ks.zip vs)) ∧ ks.length = vs.length ∧ RDs H R rho xs vs
  | .dtt ks xs => ∃ vs, H a = some (.dT (ks.zip vs)) ∧ ks.length = vs.length ∧ RDs H R rho xs vs
  | .ins C ns xs => ∃ dx vs, H a = some (.ins C dx (ns.zip vs)) ∧ ns.length = vs.length ∧ RDs H R rho xs vs
  | _ => False
theorem Node.some {H : Hp} {R rho : List Addr} {a : Addr} {d : Dat} (h : Node H R rho a d) : ∃ o, H a = .some o := by
  cases d with
  | lst xs => obtain ⟨vs, e, _⟩ := h; exact ⟨_, e⟩
  | dct ks xs => obtain ⟨vs, e, _⟩ := h; exact ⟨_, e⟩
  | dtt ks xs => obtain ⟨vs, e, _⟩ := h; exact ⟨_, e⟩
  | ins C ns xs => obtain ⟨dx, vs, e, _⟩ := h; exact ⟨_, e⟩
  | _ => exact h.elim
abbrev TT' := List (Addr × HO)
/-- a cell of a frame that waits: what it holds -/
def CelO (c : Addr) (o : Obj) : HO := .ext fun h => h.get? c = some o
/-- what holds all along: the tables of code objects, the cells of frames that wait, their data -/
class Tabl where
  tabs : List (Addr × Str)
  cels : List (Addr × Obj)
  own : V → Dat → Prop
/-- tables and what is known by a word stay -/
def Mild (H H' : Hp) : Prop := ∀ b o, H b = some o → ((∃ ps, o = .tbl ps) ∨ ∃ P, o = .ext P) → H' b = some o
theorem Mild.refl (H : Hp) : Mild H H := fun _ _ h _ => h
theorem Mild.new {H : Hp} {p : Addr} {o : HO} (hp : H p = none) : Mild H (upd H p o) := fun b u e _ => by rw [upd_ne (ne_of_none e hp)]; exact e
theorem Mild.at {H : Hp} {p : Addr} {o u : HO} (hp : H p = some u) (n1 : ∀ ps, u ≠ .tbl ps) (n2 : ∀ P, u ≠ .ext P) : Mild H (upd H p o) := fun b w e k => by
  have : b ≠ p := fun z => by
    subst z
    rw [hp] at e
    injection e with e
    subst e
    rcases k with ⟨ps, k⟩ | ⟨P, k⟩
    · exact n1 ps k
    · exact n2 P k
  rw [upd_ne this]; exact e
theorem Mild.ext {H H' : Hp} (m : Mild H H') : ∀ a P, H a = some (.ext P) → H' a = some (.ext P) := fun a P e => m a _ e (.inr ⟨P, rfl⟩)
theorem Mild.tabs {H H' : Hp} (m : Mild H H') {T : List (Addr × Str)} (t : LamX.Tabs T H) : LamX.Tabs T H' := fun p hp => by
  obtain ⟨ps, h1, h2, h3⟩ := t p hp
  refine ⟨ps, m _ _ h1 (.inl ⟨ps, rfl⟩), h2, fun pos cv hc => ?_⟩
  obtain ⟨c, e1, e2⟩ := h3 pos cv hc
  exact ⟨c, e1, m.ext _ _ e2⟩
theorem Node.mild {H : Hp} {R rho : List Addr} {a : Addr} {d : Dat} {o : HO} (h : Node H R rho a d) : Mild H (upd H a o) := by
  cases d with
  | lst xs => obtain ⟨vs, e, _⟩ := h; exact .at e (fun _ z => by cases z) (fun _ z => by cases z)
  | dct ks xs => obtain ⟨vs, e, _⟩ := h; exact .at e (fun _ z => by cases z) (fun _ z => by cases z)
  | dtt ks xs => obtain ⟨vs, e, _⟩ := h; exact .at e (fun _ z => by cases z) (fun _ z => by cases z)
  | ins C ns xs => obtain ⟨dx, vs, e, _⟩ := h; exact .at e (fun _ z => by cases z) (fun _ z => by cases z)
  | _ => exact h.elim
/-- what is pinned: no table; a word's thing only if it is a set -/
def PinOk [Tabl] (p : Addr × HO) : Prop := (∀ ps, p.2 ≠ .tbl ps) ∧ ∀ Q, p.2 = .ext Q → Tabl.cels.lookup p.1 = none ∧ ∀ h : Heap, Q h → ∃ (o : Obj) (es : Array (Int × Value)) (ep : Nat) (t : SetTable), h.get? p.1 = some o ∧ o.data = .set es ep t
theorem PinOk.of [Tabl] {D : Addr} {o : HO} (h : (∀ ps, o ≠ .tbl ps) ∧ ∀ Q, o ≠ .ext Q) : PinOk (D, o) := ⟨h.1, fun Q e => (h.2 Q e).elim⟩
structure SRx [Tabl] (H : Hp) (L : LL) (S : List Dat) (T : List (Addr × HO)) (rho : List Addr) : Prop where
  len : rho.length = S.length
  nd : (rho ++ T.map (·.1)).Nodup
  node : ∀ (n : Nat) a d, rho[n]? = some a → S[n]? = some d → Node H (rho ++ T.map (·.1)) rho a d
  pin : ∀ p ∈ T, H p.1 = some p.2
  rd : ∀ v d, L v d → RD H (rho ++ T.map (·.1)) rho d v
  tab : LamX.Tabs Tabl.tabs H
  cel : ∀ a o, Tabl.cels.lookup a = some o → H a = some (CelO a o)
  own : ∀ v d, Tabl.own v d → RD H (rho ++ T.map (·.1)) rho d v
  ntb : ∀ p ∈ T, PinOk p
def SR [Tabl] (H : Hp) (L : LL) (S : List Dat) (T : List (Addr × HO)) : Prop := ∃ rho, SRx H L S T rho
abbrev Lle (L L' : LL) : Prop := ∀ v d, L v d → L' v d
theorem Lle.refl (L : LL) : Lle L L := fun _ _ h => h
theorem Lle.trans {L L1 L2 : LL} (a : Lle L L1) (b : Lle L1 L2) : Lle L L2 := fun v d h => b v d (a v d h)
def Ladd (L : LL) (v : V) (d : Dat) : LL := fun v' d' => L v' d' ∨ (v' = v ∧ d' = d)
theorem Ladd.le {L : LL} {v : V} {d : Dat} : Lle L (Ladd L v d) := fun _ _ h => .inl h
theorem Ladd.here {L : LL} {v : V} {d : Dat} : Ladd L v d v d := .inr ⟨rfl, rfl⟩
def LaddL (L : LL) (vs : List V) (ds : List Dat) : LL := fun v' d' => L v' d' ∨ ∃ i : Nat, vs[i]? = some v' ∧ ds[i]? = some d'
theorem LaddL.le {L : LL} {vs : List V} {ds : List Dat} : Lle L (LaddL L vs ds) := fun _ _ h => .inl h
/-- pair by pair -/
def Ls (L : LL) : List V → List Dat → Prop
  | [], [] => True
  | v :: vs, d :: ds => L v d ∧ Ls L vs ds
  | _, _ => False
theorem Ls.length {L : LL} : ∀ {vs : List V} {ds : List Dat}, Ls L vs ds → vs.length = ds.length
  | [], [], _ => rfl
  | v :: vs, d :: ds, h => by simp [Ls.length h.2]
  | [], d :: ds, h => h.elim
  | v :: vs, [], h => h.elim
theorem Ls.le {L L' : LL} (l : Lle L L') : ∀ {vs : List V} {ds : List Dat}, Ls L vs ds → Ls L' vs ds
  | [], [], _ => True.intro
  | v :: vs, d :: ds, h => ⟨l _ _ h.1, Ls.le l h.2⟩
  | [], d :: ds, h => h.elim
  | v :: vs, [], h => h.elim
theorem Ls.get {L : LL} : ∀ {vs : List V} {ds : List Dat} {i : Nat} {d : Dat}, Ls L vs ds → ds[i]? = some d → ∃ v, vs[i]? = some v ∧ L v d
  | [], [], i, d, _, e => by simp at e
  | v :: vs, c :: ds, 0, d, h, e => by simp at e; subst e; exact ⟨v, by simp, h.1⟩
  | v :: vs, c :: ds, i + 1, d, h, e => by
    obtain ⟨w, h1, h2⟩ := Ls.get (i := i) h.2 (by simpa using e)
    exact ⟨w, by simpa using h1, h2⟩
  | [], d :: ds, _, _, h, _ => h.elim
  | v :: vs, [], _, _, h, _ => h.elim
theorem Ls.getV {L : LL} : ∀ {vs : List V} {ds : List Dat} {i : Nat} {v : V}, Ls L vs ds → vs[i]? = some v → ∃ d, ds[i]? = some d ∧ L v d
  | [], [], i, d, _, e => by simp at e
  | v :: vs, c :: ds, 0, d, h, e => by simp at e; subst e; exact ⟨c, by simp, h.1⟩
  | v :: vs, c :: ds, i + 1, d, h, e => by
    obtain ⟨w, h1, h2⟩ := Ls.getV (i := i) h.2 (by simpa using e)
    exact ⟨w, by simpa using h1, h2⟩
  | [], d :: ds, _, _, h, _ => h.elim
  | v :: vs, [], _, _, h, _ => h.elim
theorem Ls.of {L : LL} : ∀ {vs : List V} {ds : List Dat}, vs.length = ds.length → (∀ (i : Nat) v d, vs[i]? = some v → ds[i]? = some d → L v d) → Ls L vs ds
  | [], [], _, _ => True.intro
  | v :: vs, d :: ds, l, h => ⟨h 0 v d (by simp) (by simp), Ls.of (by simpa using l) fun i w c e1 e2 => h (i + 1) w c (by simpa using e1) (by simpa using e2)⟩
  | [], d :: ds, l, _ => by simp at l
  | v :: vs, [], l, _ => by simp at l
theorem Ls.append {L : LL} : ∀ {vs ws : List V} {ds es : List Dat}, Ls L vs ds → Ls L ws es → Ls L (vs ++ ws) (ds ++ es)
  | [], _, [], _, _, k => k
  | v :: vs, _, d :: ds, _, h, k => ⟨h.1, Ls.append h.2 k⟩
  | [], _, d :: ds, _, h, _ => h.elim
  | v :: vs, _, [], _, h, _ => h.elim
section
variable {H H' : Hp} {L L' : LL} {S : List Dat} {T : List (Addr × HO)} {R rho : List Addr}
theorem RDs.ls {LR : LL} (hL : ∀ v d, RD H R rho d v → LR v d) : ∀ {ds : List Dat} {vs : List V}, RDs H R rho ds vs → Ls LR vs ds
  | [], vs, h => by simp only [RDs] at h; subst h; exact True.intro
  | d :: ds, vs, h => by
    simp only [RDs] at h
    obtain ⟨w, ws, e, h1, h2⟩ := h
    subst e
    exact ⟨hL _ _ h1, RDs.ls hL h2⟩
theorem Ls.rds (hL : ∀ v d, L v d → RD H R rho d v) : ∀ {vs : List V} {ds : List Dat}, Ls L vs ds → RDs H R rho ds vs
  | [], [], _ => by simp only [RDs]
  | v :: vs, d :: ds, h => by
    simp only [RDs]
    exact ⟨v, vs, rfl, hL _ _ h.1, Ls.rds hL h.2⟩
  | [], d :: ds, h => h.elim
  | v :: vs, [], h => h.elim
theorem RDs.len : ∀ {ds : List Dat} {vs : List V}, RDs H R rho ds vs → vs.length = ds.length := fun h => (RDs.ls (LR := fun _ _ => True) (fun _ _ _ => True.intro) h).length
/-- every true pair may be added -/
theorem SRx.more [Tabl] (s : SRx H L S T rho) (h : ∀ v d, L' v d → L v d ∨ RD H (rho ++ T.map (·.1)) rho d v) : SRx H L' S T rho :=
  ⟨s.len, s.nd, s.node, s.pin, fun v d q => (h v d q).elim (s.rd v d) id, s.tab, s.cel, s.own, s.ntb⟩
/-- a pair that holds whatever the heap is -/
def Flat : Dat → V → Prop
  | .non, v => v = .non
  | .bl b, v => v = .bl b
  | .int i, v => v = .int i
  | .str s, v => v = .str s
  | .raw w, v => v = w
  | _, _ => False
theorem Flat.rd {d : Dat} {v : V} (h : Flat d v) : RD H R rho d v := by
  cases d with
  | non => simp only [RD]; exact h
  | bl b => simp only [RD]; exact h
  | int b => simp only [RD]; exact h
  | str b => simp only [RD]; exact h
  | raw b => simp only [RD]; exact h
  | _ => exact h.elim
theorem SR.flat [Tabl] (s : SR H L S T) {d : Dat} {v : V} (h : Flat d v) : SR H (Ladd L v d) S T := by
  obtain ⟨rho, x⟩ := s
  refine ⟨rho, x.more fun v' d' q => ?_⟩
  rcases q with q | ⟨rfl, rfl⟩
  · exact .inl q
  · exact .inr h.rd
/-- a new address lies outside of all that is told -/
theorem SRx.fresh [Tabl] (s : SRx H L S T rho) {p : Addr} (hp : H p = none) : p ∉ rho ++ T.map (·.1) := fun z => by
  rcases List.mem_append.mp z with q | q
  · obtain ⟨n, hn, e⟩ := List.mem_iff_getElem.mp q
    have hs : n < S.length := by rw [← s.len]; exact hn
    obtain ⟨o, ho⟩ := (s.node n p S[n] (by rw [List.getElem?_eq_getElem hn, e]) (List.getElem?_eq_getElem hs)).some
    rw [hp] at ho
    cases ho
  · obtain ⟨t, ht, e⟩ := List.mem_map.mp q
    have ho := s.pin t ht
    rw [e, hp] at ho
    cases ho
theorem Node.mono {R' rho' : List Addr} {a : Addr} {d : Dat} (m : Mono H H' R R' rho rho') (ha : H a = H' a) (h : Node H R rho a d) : Node H' R' rho' a d := by
  cases d with
  | lst xs => obtain ⟨vs, e, r⟩ := h; exact ⟨vs, by rw [← ha]; exact e, RDs.mono m r⟩
  | dct ks xs => obtain ⟨vs, e, l, r⟩ := h; exact ⟨vs, by rw [← ha]; exact e, l, RDs.mono m r⟩
  | dtt ks xs => obtain ⟨vs, e, l, r⟩ := h; exact ⟨vs, by rw [← ha]; exact e, l, RDs.mono m r⟩
  | ins C ns xs => obtain ⟨dx, vs, e, l, r⟩ := h; exact ⟨dx, vs, by rw [← ha]; exact e, l, RDs.mono m r⟩
  | _ => exact h.elim
theorem Mono.upd {p : Addr} {o : HO} (hp : H p = none) : Mono H (upd H p o) R R rho rho :=
  ⟨fun a u _ e _ _ => by rw [upd_ne (ne_of_none e hp)]; exact e, fun a h => .inl h, fun _ _ h => h, fun _ _ _ => FnAt.mono (Mild.new hp).ext⟩
/-- a new object beside: nothing that was told changes -/
theorem SRx.new [Tabl] (s : SRx H L S T rho) {p : Addr} {o : HO} (hp : H p = none) : SRx (upd H p o) L S T rho := by
  have m : Mono H (upd H p o) (rho ++ T.map (·.1)) (rho ++ T.map (·.1)) rho rho := .upd hp
  refine ⟨s.len, s.nd, fun n a d h1 h2 => ?_, fun q hq => ?_, fun v d h => RD.mono m (s.rd v d h), (Mild.new hp).tabs s.tab, fun q o e => (Mild.new hp).ext _ _ (s.cel q o e), fun v d h => RD.mono m (s.own v d h), s.ntb⟩
  · have hn := s.node n a d h1 h2
    obtain ⟨o, ho⟩ := hn.some
    exact hn.mono m (by rw [upd_ne (ne_of_none ho hp)])
  · have hq' := s.pin q hq
    rw [upd_ne (ne_of_none hq' hp)]
    exact hq'
/-- a new tree -/
theorem SR.tree [Tabl] (s : SR H L S T) {p : Addr} {o : HO} {d : Dat} (hp : H p = none) (h : ∀ R rho, p ∉ R → (∀ v d, L v d → RD (upd H p o) R rho d v) → RD (upd H p o) R rho d (.ref p)) : SR (upd H p o) (Ladd L (.ref p) d) S T := by
  obtain ⟨rho, x⟩ := s
  have y := x.new (o := o) hp
  refine ⟨rho, y.more fun v' d' q => ?_⟩
  rcases q with q | ⟨rfl, rfl⟩
  · exact .inl q
  · exact .inr (h _ _ (x.fresh hp) y.rd)
theorem SR.lst [Tabl] (s : SR H L S T) {p : Addr} {vs : List V} {ds : List Dat} (hp : H p = none) (h : Ls L vs ds) : SR (upd H p (.lst vs)) (Ladd L (.ref p) (.lst ds)) S T :=
  s.tree hp fun R rho nr hL => by simp only [RD]; exact ⟨p, vs, rfl, nr, upd_same, Ls.rds hL h⟩
theorem SR.tup [Tabl] (s : SR H L S T) {p : Addr} {vs : List V} {ds : List Dat} (hp : H p = none) (h : Ls L vs ds) : SR (upd H p (.tup vs)) (Ladd L (.ref p) (.tup ds)) S T :=
  s.tree hp fun R rho nr hL => by simp only [RD]; exact ⟨p, vs, rfl, nr, upd_same, Ls.rds hL h⟩
theorem SR.dct [Tabl] (s : SR H L S T) {p : Addr} {ks : List Key} {vs : List V} {ds : List Dat} (hp : H p = none) (hl : ks.length = vs.length) (h : Ls L vs ds) : SR (upd H p (.dK (ks.zip vs))) (Ladd L (.ref p) (.dct ks ds)) S T :=
  s.tree hp fun R rho nr hL => by simp only [RD]; exact ⟨p, vs, rfl, nr, .inl upd_same, hl, Ls.rds hL h⟩
/-- the object that bears a node's data -/
def HoOf (vs : List V) : Dat → HO → Prop
  | .lst _, o => o = .lst vs
  | .dct ks _, o => o = .dK (ks.zip vs) ∧ ks.length = vs.length
  | .dtt ks _, o => o = .dT (ks.zip vs) ∧ ks.length = vs.length
  | .ins C ns _, o => (∃ dx, o = .ins C dx (ns.zip vs)) ∧ ns.length = vs.length
  | _, _ => False
def kids : Dat → List Dat
  | .lst xs => xs | .tup xs => xs | .dct _ xs => xs | .dtt _ xs => xs | .ins _ _ xs => xs | .xd _ xs => xs
  | _ => []
theorem node_of {vs : List V} {a : Addr} {d : Dat} {o : HO} (ha : H a = some o) (ho : HoOf vs d o) (h : RDs H R rho (kids d) vs) : Node H R rho a d := by
  cases d with
  | lst xs => exact ⟨vs, by rw [ha, show o = .lst vs from ho], h⟩
  | dct ks xs => obtain ⟨e, l⟩ := ho; exact ⟨vs, by rw [ha, e], l, h⟩
  | dtt ks xs => obtain ⟨e, l⟩ := ho; exact ⟨vs, by rw [ha, e], l, h⟩
  | ins C ns xs => obtain ⟨⟨dx, e⟩, l⟩ := ho; exact ⟨dx, vs, by rw [ha, e], l, h⟩
  | _ => exact ho.elim
theorem nodup_snoc {xs ys : List Addr} {p : Addr} (h : (xs ++ ys).Nodup) (hp : p ∉ xs ++ ys) : ((xs ++ [p]) ++ ys).Nodup := by
  rw [List.append_assoc]
  have hperm : (xs ++ ([p] ++ ys)).Perm (p :: (xs ++ ys)) := by
    have := List.perm_middle (a := p) (l₁ := xs) (l₂ := ys)
    simpa using this
  exact hperm.nodup_iff.mpr (List.nodup_cons.mpr ⟨hp, h⟩)
/-- a new cell -/
theorem SR.cell [Tabl] (s : SR H L S T) {p : Addr} {o : HO} {vs : List V} {d : Dat} (hp : H p = none) (ho : HoOf vs d o) (h : Ls L vs (kids d)) : SR (upd H p o) (Ladd L (.ref p) (.cell S.length)) (S ++ [d]) T := by
  obtain ⟨rho, x⟩ := s
  have y := x.new (o := o) hp
  have np := x.fresh hp
  have m : Mono (L2.upd H p o) (L2.upd H p o) (rho ++ T.map (·.1)) ((rho ++ [p]) ++ T.map (·.1)) rho (rho ++ [p]) → True := fun _ => True.intro
  -- p is in the new R: trees known ahead do not touch it
  have m2 : Mono H (L2.upd H p o) (rho ++ T.map (·.1)) ((rho ++ [p]) ++ T.map (·.1)) rho (rho ++ [p]) :=
    ⟨fun a u _ e _ _ => by rw [upd_ne (ne_of_none e hp)]; exact e, fun a h => by
      simp only [List.mem_append, List.mem_singleton] at h ⊢
      rcases h with (h | h) | h
      · exact .inl (.inl h)
      · subst h; exact .inr hp
      · exact .inl (.inr h), fun n a e => by rw [List.getElem?_append_left (List.getElem?_eq_some_iff.mp e).1]; exact e, fun _ _ _ => FnAt.mono (Mild.new hp).ext⟩
  refine ⟨rho ++ [p], ?_, nodup_snoc x.nd np, fun n a c h1 h2 => ?_, y.pin, fun v c q => ?_, y.tab, y.cel, fun v c q => RD.mono m2 (x.own v c q), x.ntb⟩
  · simp [x.len]
  · by_cases hn : n < rho.length
    · rw [List.getElem?_append_left hn] at h1
      rw [List.getElem?_append_left (by rw [← x.len]; exact hn)] at h2
      have hx := x.node n a c h1 h2
      obtain ⟨u, hu⟩ := hx.some
      exact hx.mono m2 (by rw [upd_ne (ne_of_none hu hp)])
    · have e : n = rho.length := by
        have := (List.getElem?_eq_some_iff.mp h1).1
        simp at this; omega
      subst e
      rw [List.getElem?_append_right (Nat.le_refl _)] at h1
      rw [List.getElem?_append_right (by rw [x.len]; exact Nat.le_refl _), x.len] at h2
      simp at h1 h2
      subst h1; subst h2
      exact node_of upd_same ho (Ls.rds (fun v c q => RD.mono m2 (x.rd v c q)) h)
  · rcases q with q | ⟨rfl, rfl⟩
    · exact RD.mono m2 (x.rd v c q)
    · simp only [RD]
      exact ⟨p, by rw [← x.len, List.getElem?_append_right (Nat.le_refl _)]; simp, rfl⟩
/-- where a cell stands -/
theorem SRx.at_ [Tabl] (s : SRx H L S T rho) {v : V} {n : Nat} (h : L v (.cell n)) : ∃ a, rho[n]? = some a ∧ v = .ref a := by
  have := s.rd v _ h
  simp only [RD] at this
  exact this
/-- a cell gets other data -/
theorem SR.set [Tabl] (s : SR H L S T) {a : Addr} {n : Nat} {o : HO} {vs : List V} {d : Dat} (hc : L (.ref a) (.cell n)) (ho : HoOf vs d o) (h : Ls L vs (kids d)) : SR (upd H a o) L (S.set n d) T := by
  obtain ⟨rho, x⟩ := s
  obtain ⟨b, hb, e⟩ := x.at_ hc
  injection e with e
  subst e
  have hin : a ∈ rho := List.mem_of_getElem? hb
  have hn := (List.getElem?_eq_some_iff.mp hb).1
  have md : Mild H (L2.upd H a o) := (x.node n a (S[n]'(by rw [← x.len]; exact hn)) hb (List.getElem?_eq_getElem (by rw [← x.len]; exact hn))).mild
  have m : Mono H (L2.upd H a o) (rho ++ T.map (·.1)) (rho ++ T.map (·.1)) rho rho :=
    ⟨fun c u hc e _ _ => by rw [upd_ne fun z => hc (by rw [z]; exact List.mem_append_left _ hin)]; exact e, fun _ h => .inl h, fun _ _ h => h, fun _ _ _ => FnAt.mono md.ext⟩
  have ndr : rho.Nodup := (List.nodup_append.mp x.nd).1
  refine ⟨rho, by rw [List.length_set]; exact x.len, x.nd, fun k c f h1 h2 => ?_, fun p hp => ?_, fun v c q => RD.mono m (x.rd v c q), md.tabs x.tab, fun q o e => md.ext _ _ (x.cel q o e), fun v c q => RD.mono m (x.own v c q), x.ntb⟩
  · by_cases hk : k = n
    · subst hk
      rw [hb] at h1
      injection h1 with h1
      subst h1
      rw [List.getElem?_set_self (by rw [← x.len]; exact hn)] at h2
      injection h2 with h2
      subst h2
      exact node_of upd_same ho (Ls.rds (fun v c q => RD.mono m (x.rd v c q)) h)
    · rw [List.getElem?_set_ne (Ne.symm hk)] at h2
      have hne : c ≠ a := fun z => by
        subst z
        exact hk ((List.getElem?_inj (List.getElem?_eq_some_iff.mp h1).1 ndr).mp (h1.trans hb.symm))
      exact (x.node k c f h1 h2).mono m (by rw [upd_ne hne])
  · have hne : p.1 ≠ a := fun z => by
      have hd := List.nodup_append.mp x.nd
      exact hd.2.2 a hin p.1 (List.mem_map.mpr ⟨p, hp, rfl⟩) z.symm
    rw [upd_ne hne]
    exact x.pin p hp
/-- data as it may be looked at: a tree itself, what stands at a cell -/
def view (S : List Dat) : Dat → Option Dat
  | .cell n => S[n]?
  | d => some d
/-- a list's, a tuple's items -/
theorem SR.list [Tabl] (s : SR H L S T) {v : V} {d : Dat} {ds : List Dat} (h : L v d) (hv : view S d = some (.lst ds)) : ∃ a vs, v = .ref a ∧ H a = some (.lst vs) ∧ SR H (LaddL L vs ds) S T ∧ Ls (LaddL L vs ds) vs ds := by
  obtain ⟨rho, x⟩ := s
  have key : ∀ (vs : List V), RDs H (rho ++ T.map (·.1)) rho ds vs → SR H (LaddL L vs ds) S T ∧ Ls (LaddL L vs ds) vs ds := fun vs r => by
    have q := RDs.ls (LR := fun v d => RD H (rho ++ T.map (·.1)) rho d v) (fun _ _ h => h) r
    refine ⟨⟨rho, x.more fun v d z => ?_⟩, Ls.of q.length fun i w c e1 e2 => .inr ⟨i, e1, e2⟩⟩
    rcases z with z | ⟨i, e1, e2⟩
    · exact .inl z
    · obtain ⟨w, e3, r⟩ := q.get e2
      rw [e1] at e3
      injection e3 with e3
      subst e3
      exact .inr r
  cases d with
  | cell n =>
    obtain ⟨a, ha, e⟩ := x.at_ h
    obtain ⟨vs, e1, r⟩ := x.node n a _ ha hv
    exact ⟨a, vs, e, e1, key vs r⟩
  | lst xs =>
    simp only [view, Option.some.injEq, Dat.lst.injEq] at hv
    subst hv
    have q := x.rd v _ h
    simp only [RD] at q
    obtain ⟨a, vs, e, _, r1, r⟩ := q
    exact ⟨a, vs, e, r1, key vs r⟩
  | _ => simp [view] at hv
theorem SR.tuple [Tabl] (s : SR H L S T) {v : V} {ds : List Dat} (h : L v (.tup ds)) : ∃ a vs, v = .ref a ∧ H a = some (.tup vs) ∧ SR H (LaddL L vs ds) S T ∧ Ls (LaddL L vs ds) vs ds := by
  obtain ⟨rho, x⟩ := s
  have q := x.rd v _ h
  simp only [RD] at q
  obtain ⟨a, vs, e, _, r1, r⟩ := q
  have q := RDs.ls (LR := fun v d => RD H (rho ++ T.map (·.1)) rho d v) (fun _ _ h => h) r
  refine ⟨a, vs, e, r1, ⟨rho, x.more fun v d z => ?_⟩, Ls.of q.length fun i w c e1 e2 => .inr ⟨i, e1, e2⟩⟩
  rcases z with z | ⟨i, e1, e2⟩
  · exact .inl z
  · obtain ⟨w, e3, r⟩ := q.get e2
    rw [e1] at e3
    injection e3 with e3
    subst e3
    exact .inr r
theorem SR.dtt [Tabl] (s : SR H L S T) {p : Addr} {ks : List (List Key)} {vs : List V} {ds : List Dat} (hp : H p = none) (hl : ks.length = vs.length) (h : Ls L vs ds) : SR (upd H p (.dT (ks.zip vs))) (Ladd L (.ref p) (.dtt ks ds)) S T :=
  s.tree hp fun R rho nr hL => by simp only [RD]; exact ⟨p, vs, rfl, nr, .inl upd_same, hl, Ls.rds hL h⟩
end
end DL
/-! DL2: expressions over data. -/
namespace DL
open PySem L2
/-- an error: its class, its attributes -/
structure Exc where
  C : Addr
  ns : List Str
  xs : List Dat
abbrev Env' := List (Option Dat)
abbrev Store := List Dat
abbrev KE := Dat → Store → Prop
abbrev KX := Exc → Store → Prop
abbrev UE := Env' → Store → KE → KX → Prop
abbrev UT := Env' → Store → (Bool → Store → Prop) → KX → Prop
abbrev UA := Env' → Store → (List Dat → Store → Prop) → KX → Prop
def EnvIn (sg : St) (dl : Env') (L : LL) : Prop := sg.length = dl.length ∧ ∀ (i : Nat) d, dl[i]? = some (some d) → ∃ v, sg[i]? = some (some v) ∧ L v d
theorem EnvIn.le {sg : St} {dl : Env'} {L L' : LL} (e : EnvIn sg dl L) (l : Lle L L') : EnvIn sg dl L' := ⟨e.1, fun i d h => let ⟨v, a, b⟩ := e.2 i d h; ⟨v, a, l _ _ b⟩⟩
def XOk [Tabl] (W : WX) (sg : St) (L : LL) (T : List (Addr × HO)) (X : KX) : Prop := ∀ e dd L' H' S', Lle L L' → L' (.ref dd) (.xd e.ns e.xs) → SR H' L' S' T → X e S' → W (.ref e.C) (some dd) sg H'
def EOk [Tabl] (L : LL) (T : List (Addr × HO)) (K : KE) (Q : VK) : Prop := ∀ v d L' H' S', Lle L L' → L' v d → SR H' L' S' T → K d S' → Q v H'
def TOk [Tabl] (L : LL) (T : List (Addr × HO)) (K : Bool → Store → Prop) (Q : Bool → Hp → Prop) : Prop := ∀ b L' H' S', Lle L L' → SR H' L' S' T → K b S' → Q b H'
def AOk [Tabl] (L : LL) (T : List (Addr × HO)) (K : List Dat → Store → Prop) (Q : List V → Hp → Prop) : Prop := ∀ vs ds L' H' S', Lle L L' → Ls L' vs ds → SR H' L' S' T → K ds S' → Q vs H'
theorem XOk.le [Tabl] {W : WX} {sg : St} {L L' : LL} {T : List (Addr × HO)} {X : KX} (x : XOk W sg L T X) (l : Lle L L') : XOk W sg L' T X := fun e dd L2 H' S' h => x e dd L2 H' S' (l.trans h)
theorem EOk.le [Tabl] {L L' : LL} {T : List (Addr × HO)} {K : KE} {Q : VK} (x : EOk L T K Q) (l : Lle L L') : EOk L' T K Q := fun v d L2 H' S' h => x v d L2 H' S' (l.trans h)
theorem TOk.le [Tabl] {L L' : LL} {T : List (Addr × HO)} {K : Bool → Store → Prop} {Q : Bool → Hp → Prop} (x : TOk L T K Q) (l : Lle L L') : TOk L' T K Q := fun b L2 H' S' h => x b L2 H' S' (l.trans h)
theorem AOk.le [Tabl] {L L' : LL} {T : List (Addr × HO)} {K : List Dat → Store → Prop} {Q : List V → Hp → Prop} (x : AOk L T K Q) (l : Lle L L') : AOk L' T K Q := fun b d L2 H' S' h => x b d L2 H' S' (l.trans h)
/-- the reading t over values is met by the reading u over data -/
def ImpE [Tabl] (W : WX) (t : TE) (u : UE) : Prop := ∀ {sg dl L H S T K X Q}, EnvIn sg dl L → SR H L S T → u dl S K X → EOk L T K Q → XOk W sg L T X → t sg H Q
def ImpT [Tabl] (W : WX) (t : TT) (u : UT) : Prop := ∀ {sg dl L H S T K X Q}, EnvIn sg dl L → SR H L S T → u dl S K X → TOk L T K Q → XOk W sg L T X → t sg H Q
def ImpA [Tabl] (W : WX) (t : TA) (u : UA) : Prop := ∀ {sg dl L H S T K X Q}, EnvIn sg dl L → SR H L S T → u dl S K X → AOk L T K Q → XOk W sg L T X → t sg H Q
/-- an operation on values, on data -/
abbrev G1 := Dat → Store → KE → Prop
abbrev G2 := Dat → Dat → Store → KE → Prop
abbrev GL := List Dat → Store → KE → Prop
abbrev GM := Dat → List Dat → Store → KE → Prop
def OpI [Tabl] (r : R2) (g : G2) : Prop := ∀ {x y dx dy L H S T K Q}, SR H L S T → L x dx → L y dy → g dx dy S K → EOk L T K Q → r x y H Q
def UnI [Tabl] (r : V → Hp → VK → Prop) (g : G1) : Prop := ∀ {x dx L H S T K Q}, SR H L S T → L x dx → g dx S K → EOk L T K Q → r x H Q
def CbI [Tabl] (r : List V → Hp → VK → Prop) (g : GL) : Prop := ∀ {xs ds L H S T K Q}, SR H L S T → Ls L xs ds → g ds S K → EOk L T K Q → r xs H Q
def MtI [Tabl] (r : V → List V → Hp → VK → Prop) (g : GM) : Prop := ∀ {x dx xs ds L H S T K Q}, SR H L S T → L x dx → Ls L xs ds → g dx ds S K → EOk L T K Q → r x xs H Q
structure DE [Tabl] (X : Cx) (W : WX) (e : Expr) (t : TE) (u : UE) : Prop where
  run : PE X e t
  imp : ImpE W t u
structure DT [Tabl] (X : Cx) (W : WX) (e : Expr) (t : TT) (u : UT) : Prop where
  run : PT X e t
  imp : ImpT W t u
structure DW [Tabl] (X : Cx) (W : WX) (e : Expr) (t : TT) (u : UT) : Prop where
  run : PW X e t
  imp : ImpT W t u
structure DA [Tabl] (X : Cx) (W : WX) (es : List Expr) (t : TA) (u : UA) : Prop where
  run : PA X es t
  imp : ImpA W t u
theorem DW.dt [Tabl] {X : Cx} {W : WX} {e : Expr} {t : TT} {u : UT} (h : DW X W e t u) : DT X W e t u := ⟨h.run.pt, h.imp⟩
/-! ### readings over data -/
def uVar (i : Nat) : UE := fun dl S K _ => match dl[i]? with
  | some (some d) => K d S
  | _ => False
def uC (d : Dat) : UE := fun _ S K _ => K d S
def uOp (g : G2) (ua ub : UE) : UE := fun dl S K X => ua dl S (fun x S1 => ub dl S1 (fun y S2 => g x y S2 K) X) X
def uUn (g : G1) (ua : UE) : UE := fun dl S K X => ua dl S (fun x S1 => g x S1 K) X
def uNil : UA := fun _ S K _ => K [] S
def uCons (ua : UE) (ur : UA) : UA := fun dl S K X => ua dl S (fun x S1 => ur dl S1 (fun xs S2 => K (x :: xs) S2) X) X
def uTup (ua : UA) : UE := fun dl S K X => ua dl S (fun xs S1 => xs.length ≤ sizeLine ∧ K (.tup xs) S1) X
/-- a display that never changes; one that may be changed -/
def uLst (ua : UA) : UE := fun dl S K X => ua dl S (fun xs S1 => xs.length ≤ sizeLine ∧ K (.lst xs) S1) X
def uLstC (ua : UA) : UE := fun dl S K X => ua dl S (fun xs S1 => xs.length ≤ sizeLine ∧ K (.cell S1.length) (S1 ++ [.lst xs])) X
def uCB (g : GL) (ua : UA) : UE := fun dl S K X => ua dl S (fun xs S1 => g xs S1 K) X
def uIf (t : UT) (ua ub : UE) : UE := fun dl S K X => t dl S (fun c S1 => if c = true then ua dl S1 K X else ub dl S1 K X) X
def uTest (ua : UE) : UT := fun dl S K X => ua dl S (fun d S1 => match d with
  | .bl b => K b S1
  | _ => False) X
def uAnd (a b : UT) : UT := fun dl S K X => a dl S (fun c S1 => if c = true then b dl S1 K X else K false S1) X
def uOr (a b : UT) : UT := fun dl S K X => a dl S (fun c S1 => if c = true then K true S1 else b dl S1 K X) X
def uNot (a : UT) : UT := fun dl S K X => a dl S (fun c S1 => K (!c) S1) X
/-- the truth of data -/
def gTru (d : Dat) (S : Store) (K : Bool → Store → Prop) : Prop := match d with
  | .non => K false S
  | .bl b => K b S
  | .int i => K (i != 0) S
  | .str y => y.length ≤ sizeLine ∧ K ((y.length : Int) != 0) S
  | .tup xs => K (!xs.isEmpty) S
  | .lst xs => K (!xs.isEmpty) S
  | .cell n => match S[n]? with
    | some (.lst xs) => K (!xs.isEmpty) S
    | _ => False
  | _ => False
def uTru (ua : UE) : UT := fun dl S K X => ua dl S (fun d S1 => gTru d S1 K) X
def uAndV (ua ub : UE) : UE := fun dl S K X => ua dl S (fun d S1 => gTru d S1 fun c S2 => if c = true then ub dl S2 K X else K d S2) X
def uOrV (ua ub : UE) : UE := fun dl S K X => ua dl S (fun d S1 => gTru d S1 fun c S2 => if c = true then K d S2 else ub dl S2 K X) X
def uNotV (ua : UE) : UE := fun dl S K X => ua dl S (fun d S1 => gTru d S1 fun c S2 => K (.bl (!c)) S2) X
def uChain (g g' : G2) (ua ub uc : UE) : UE := fun dl S K X => ua dl S (fun x S1 => ub dl S1 (fun y S2 => g x y S2 fun z S3 => match z with
  | .bl c => if c = true then uc dl S3 (fun w S4 => g' y w S4 K) X else K (.bl false) S3
  | _ => False) X) X
section
variable {X : Cx} {W : WX} {a b c e : Expr} {es rest : List Expr} {ta tb tc te : TE} {ua ub uc ue : UE} {tA tB' : TT} {uA uB : UT} {t : TA} {u : UA} {pos : Pos} {r r' : R2} {g g' : G2}
theorem imp_var [Tabl] {i : Nat} : ImpE W (tVar i) (uVar i) := fun {sg dl L H S T K X Q} he hs h ho _ => by
  unfold uVar at h
  cases e : dl[i]? with
  | none => rw [e] at h; exact h.elim
  | some o =>
    rw [e] at h
    cases o with
    | none => exact h.elim
    | some d =>
      obtain ⟨v, h1, h2⟩ := he.2 i d e
      exact ⟨v, h1, ho v d L H S (.refl L) h2 hs h⟩
theorem de_var [Tabl] (i : Nat) {x : Str} (hN : X.N[i]? = some x := by rfl) (hv : Vis X.env.scope x := by first | exact Or.inl rfl | exact Or.inr (Or.inl rfl) | exact Or.inr (Or.inr rfl)) (hd : (x == ("__debug__" : Str)) = false := by decide)
    (hcd : (x == ("__classdict__" : Str)) = false := by decide) : DE X W (.Name x pos) (tVar i) (uVar i) := ⟨pe_var hN hv hd hcd, imp_var⟩
theorem imp_c [Tabl] {v : V} {d : Dat} (h : Flat d v) : ImpE W (tC v) (uC d) := fun {sg dl L H S T K X Q} _ hs hu ho _ =>
  ho v d (Ladd L v d) H S Ladd.le Ladd.here (hs.flat h) hu
theorem de_int [Tabl] {i j} : DE X W (.Constant (.int i) j pos) (tC (.int i)) (uC (.int i)) := ⟨pe_int, imp_c (d := .int i) (v := .int i) rfl⟩
theorem de_bl [Tabl] {b j} : DE X W (.Constant (.bool b) j pos) (tC (.bl b)) (uC (.bl b)) := ⟨pe_bl, imp_c (d := .bl b) (v := .bl b) rfl⟩
theorem de_non [Tabl] {j} : DE X W (.Constant .none j pos) (tC .non) (uC .non) := ⟨pe_non, imp_c (d := .non) (v := .non) rfl⟩
theorem de_str [Tabl] {x j} : DE X W (.Constant (.str x) j pos) (tC (.str x)) (uC (.str x)) := ⟨pe_str, imp_c (d := .str x) (v := .str x) rfl⟩
/-- a module's constant -/
theorem de_glob [Tabl] {x : Str} {v : V} {d : Dat} {w : Value} (hm : X.mg x = some w) (r : RelV v w) (hf : Flat d v := by rfl) (hg : Gl X x := by rfl) (hd : (x == ("__debug__" : Str)) = false := by decide) : DE X W (.Name x pos) (tC v) (uC d) := ⟨pe_glob hg hm r hd, imp_c hf⟩
theorem imp_op [Tabl] (ho : OpI r g) (ha : ImpE W ta ua) (hb : ImpE W tb ub) : ImpE W (tOp r ta tb) (uOp g ua ub) := fun {sg dl L H S T K X Q} he hs h hq hx =>
  ha he hs h (fun x dx L1 H1 S1 l1 p1 s1 h1 => hb (he.le l1) s1 h1 (fun y dy L2 H2 S2 l2 p2 s2 h2 => ho s2 (l2 _ _ p1) p2 h2 (hq.le (l1.trans l2))) (hx.le l1)) hx
theorem imp_un [Tabl] {r : V → Hp → VK → Prop} {g : G1} (ho : UnI r g) (ha : ImpE W ta ua) : ImpE W (tUn r ta) (uUn g ua) := fun {sg dl L H S T K X Q} he hs h hq hx =>
  ha he hs h (fun x dx L1 H1 S1 l1 p1 s1 h1 => ho s1 p1 h1 (hq.le l1)) hx
theorem da_nil [Tabl] : DA X W [] tNil uNil := ⟨pa_nil, fun {sg dl L H S T K X Q} _ hs h hq _ => hq [] [] L H S (.refl L) True.intro hs h⟩
theorem imp_cons [Tabl] (ha : ImpE W ta ua) (hr : ImpA W t u) : ImpA W (tCons ta t) (uCons ua u) := fun {sg dl L H S T K X Q} he hs h hq hx =>
  ha he hs h (fun x dx L1 H1 S1 l1 p1 s1 h1 => hr (he.le l1) s1 h1 (fun ys dys L2 H2 S2 l2 p2 s2 h2 => hq (x :: ys) (dx :: dys) L2 H2 S2 (l1.trans l2) ⟨l2 _ _ p1, p2⟩ s2 h2) (hx.le l1)) hx
theorem da_cons [Tabl] (ha : DE X W e te ue) (hr : DA X W es t u) (hs : starEach (e :: es) X.env = (false, eval e X.env) :: starEach es X.env := by rfl) : DA X W (e :: es) (tCons te t) (uCons ue u) := ⟨pa_cons ha.run hr.run hs, imp_cons ha.imp hr.imp⟩
theorem de_tup [Tabl] {x1} (h : DA X W es t u) : DE X W (.Tuple es x1 pos) (tTup t) (uTup u) := ⟨pe_tup h.run, fun {sg dl L H S T K X Q} he hs h' hq hx =>
  h.imp he hs h' (fun vs ds L1 H1 S1 l1 p1 s1 h1 => ⟨by rw [p1.length]; exact h1.1, fun p hp => hq _ _ _ _ S1 (l1.trans Ladd.le) Ladd.here (s1.tup hp p1) h1.2⟩) hx⟩
theorem de_lst [Tabl] (h : DA X W es t u) : DE X W (.List es pos) (tLst t) (uLst u) := ⟨pe_lst h.run, fun {sg dl L H S T K X Q} he hs h' hq hx =>
  h.imp he hs h' (fun vs ds L1 H1 S1 l1 p1 s1 h1 => ⟨by rw [p1.length]; exact h1.1, fun p hp => hq _ _ _ _ S1 (l1.trans Ladd.le) Ladd.here (s1.lst hp p1) h1.2⟩) hx⟩
theorem de_lstC [Tabl] (h : DA X W es t u) : DE X W (.List es pos) (tLst t) (uLstC u) := ⟨pe_lst h.run, fun {sg dl L H S T K X Q} he hs h' hq hx =>
  h.imp he hs h' (fun vs ds L1 H1 S1 l1 p1 s1 h1 => ⟨by rw [p1.length]; exact h1.1, fun p hp => hq _ _ _ _ _ (l1.trans Ladd.le) Ladd.here (s1.cell (d := .lst ds) hp rfl p1) h1.2⟩) hx⟩
/-! operators: the rule by values and by data -/
structure DOp [Tabl] (X : Cx) (f : Value → Value → Sem Value) (r : R2) (g : G2) : Prop where
  run : OpR X f r
  imp : OpI r g
theorem de_bin [Tabl] {op : Operator} (ho : DOp X (binaryOp op) r g) (ha : DE X W a ta ua) (hb : DE X W b tb ub) : DE X W (.BinOp a op b pos) (tOp r ta tb) (uOp g ua ub) := ⟨pe_op ho.run ha.run hb.run, imp_op ho.imp ha.imp hb.imp⟩
theorem de_cmp [Tabl] {op : CmpOp} (ho : DOp X (compareOp op) r g) (ha : DE X W a ta ua) (hb : DE X W b tb ub) (hm : behindInMarks op b = false := by first | exact nomark _ | rfl) : DE X W (.Compare a [op] [b] pos) (tOp r ta tb) (uOp g ua ub) := ⟨pe_cmpR ho.run ha.run hb.run hm, imp_op ho.imp ha.imp hb.imp⟩
theorem imp_test [Tabl] (ha : ImpE W ta ua) : ImpT W (tTest ta) (uTest ua) := fun {sg dl L H S T K X Q} he hs h hq hx =>
  ha he hs h (fun v d L1 H1 S1 l1 p1 s1 h1 => by
    cases d with
    | bl b =>
      obtain ⟨rho, x⟩ := id s1
      have := x.rd _ _ p1
      simp only [RD] at this
      exact ⟨b, this, hq b L1 H1 S1 l1 s1 h1⟩
    | _ => exact h1.elim) hx
theorem dt_cmp [Tabl] {op : CmpOp} (ho : DOp X (compareOp op) r g) (ha : DE X W a ta ua) (hb : DE X W b tb ub) (hm : behindInMarks op b = false := by first | exact nomark _ | rfl) : DT X W (.Compare a [op] [b] pos) (tTest (tOp r ta tb)) (uTest (uOp g ua ub)) := ⟨pt_cmpR ho.run ha.run hb.run hm, imp_test (imp_op ho.imp ha.imp hb.imp)⟩
theorem imp_chain [Tabl] (ho : OpI r g) (ho' : OpI r' g') (ha : ImpE W ta ua) (hb : ImpE W tb ub) (hc : ImpE W tc uc) : ImpE W (tChain r r' ta tb tc) (uChain g g' ua ub uc) := fun {sg dl L H S T K X Q} he hs h hq hx =>
  ha he hs h (fun x dx L1 H1 S1 l1 p1 s1 h1 => hb (he.le l1) s1 h1 (fun y dy L2 H2 S2 l2 p2 s2 h2 => ho s2 (l2 _ _ p1) p2 h2 fun z dz L3 H3 S3 l3 p3 s3 h3 => by
    cases dz with
    | bl c =>
      obtain ⟨rho, q⟩ := id s3
      have := q.rd _ _ p3
      simp only [RD] at this
      refine ⟨c, this, ?_⟩
      cases c with
      | true => exact hc (he.le ((l1.trans l2).trans l3)) s3 h3 (fun w dw L4 H4 S4 l4 p4 s4 h4 => ho' s4 (l4 _ _ (l3 _ _ p2)) p4 h4 (hq.le (((l1.trans l2).trans l3).trans l4))) (hx.le ((l1.trans l2).trans l3))
      | false => exact hq (.bl false) (.bl false) (Ladd L3 _ _) H3 S3 (((l1.trans l2).trans l3).trans Ladd.le) Ladd.here (s3.flat rfl) h3
    | _ => exact h3.elim) (hx.le l1)) hx
theorem dt_chain [Tabl] {op op' : CmpOp} (ho : DOp X (compareOp op) r g) (ho' : DOp X (compareOp op') r' g') (ha : DE X W a ta ua) (hb : DE X W b tb ub) (hc : DE X W c tc uc) (hm : lastMarks [op, op'] [b, c] = false := by with_unfolding_all rfl) :
    DT X W (.Compare a [op, op'] [b, c] pos) (tTest (tChain r r' ta tb tc)) (uTest (uChain g g' ua ub uc)) := ⟨pt_chain ho.run ho'.run ha.run hb.run hc.run hm, imp_test (imp_chain ho.imp ho'.imp ha.imp hb.imp hc.imp)⟩
/-! truth -/
theorem tru_of [Tabl] {K' : PySem.W.Frag} {L : LL} {H : Hp} {S : Store} {T : List (Addr × HO)} {K : Bool → Store → Prop} {d : Dat} {v : V} (hs : SR H L S T) (hp : L v d) (h : gTru d S K) : ∃ k, TruV K' v H k ∧ K k S := by
  obtain ⟨rho, x⟩ := id hs
  have q := x.rd _ _ hp
  cases d with
  | non => simp only [RD] at q; subst q; exact ⟨false, rfl, h⟩
  | bl b => simp only [RD] at q; subst q; exact ⟨b, rfl, h⟩
  | int i => simp only [RD] at q; subst q; exact ⟨_, rfl, h⟩
  | str y => simp only [RD] at q; subst q; exact ⟨_, ⟨h.1, rfl⟩, h.2⟩
  | tup xs =>
    obtain ⟨a, vs, e, r, _, k⟩ := hs.tuple hp
    subst e
    refine ⟨_, .inr (.inl ⟨vs, .of r, rfl⟩), ?_⟩
    have l := k.length
    have e : vs.isEmpty = xs.isEmpty := by cases vs <;> cases xs <;> simp at l ⊢
    rw [e]; exact h
  | lst xs =>
    obtain ⟨a, vs, e, r, _, k⟩ := hs.list hp rfl
    subst e
    refine ⟨_, .inl ⟨vs, .of r, rfl⟩, ?_⟩
    have l := k.length
    have e : vs.isEmpty = xs.isEmpty := by cases vs <;> cases xs <;> simp at l ⊢
    rw [e]; exact h
  | cell n =>
    have h : (match S[n]? with
      | some (.lst xs) => K (!xs.isEmpty) S
      | _ => False) := h
    cases e : S[n]? with
    | none => rw [e] at h; exact h.elim
    | some d' =>
      rw [e] at h
      cases d' with
      | lst xs =>
        obtain ⟨a, vs, e, r, _, k⟩ := hs.list (ds := xs) hp e
        subst e
        refine ⟨_, .inl ⟨vs, .of r, rfl⟩, ?_⟩
        have l := k.length
        have e : vs.isEmpty = xs.isEmpty := by cases vs <;> cases xs <;> simp at l ⊢
        rw [e]; exact h
      | _ => exact h.elim
  | _ => exact h.elim
theorem dt_tru [Tabl] (ha : DE X W a ta ua) (hh : ∀ whole, isTrue a X.env whole = (do let v ← whole; standAt a.pos; holding [v] (truthy v)) := by intro _; rfl) : DT X W a (fun sg H Q => ta sg H fun x H' => ∃ k, TruV X.K x H' k ∧ Q k H') (uTru ua) :=
  ⟨pt_truth ha.run hh, fun {sg dl L H S T K X' Q} he hs h hq hx => ha.imp he hs h (fun v d L1 H1 S1 l1 p1 s1 h1 => by
    obtain ⟨k, hk, q⟩ := tru_of (K' := X.K) s1 p1 h1
    exact ⟨k, hk, hq k L1 H1 S1 l1 s1 q⟩) hx⟩
theorem de_and [Tabl] (ha : DE X W a ta ua) (hb : DE X W (.BoolOp .And (b :: rest) pos) tb ub) : DE X W (.BoolOp .And (a :: b :: rest) pos) (tAndT X.K ta tb) (uAndV ua ub) := ⟨pe_andT ha.run hb.run, fun {sg dl L H S T K X' Q} he hs h hq hx =>
  ha.imp he hs h (fun v d L1 H1 S1 l1 p1 s1 h1 => by
    obtain ⟨k, hk, q⟩ := tru_of (K' := X.K) s1 p1 h1
    refine ⟨k, hk, ?_⟩
    cases k with
    | true => exact hb.imp (he.le l1) s1 q (hq.le l1) (hx.le l1)
    | false => exact hq v d L1 H1 S1 l1 p1 s1 q) hx⟩
theorem de_or [Tabl] (ha : DE X W a ta ua) (hb : DE X W (.BoolOp .Or (b :: rest) pos) tb ub) : DE X W (.BoolOp .Or (a :: b :: rest) pos) (tOrT X.K ta tb) (uOrV ua ub) := ⟨pe_orT ha.run hb.run, fun {sg dl L H S T K X' Q} he hs h hq hx =>
  ha.imp he hs h (fun v d L1 H1 S1 l1 p1 s1 h1 => by
    obtain ⟨k, hk, q⟩ := tru_of (K' := X.K) s1 p1 h1
    refine ⟨k, hk, ?_⟩
    cases k with
    | true => exact hq v d L1 H1 S1 l1 p1 s1 q
    | false => exact hb.imp (he.le l1) s1 q (hq.le l1) (hx.le l1)) hx⟩
theorem de_one [Tabl] {op} (ha : DE X W a ta ua) : DE X W (.BoolOp op [a] pos) ta ua := ⟨pe_one ha.run, ha.imp⟩
theorem de_not [Tabl] (ha : DE X W a ta ua) : DE X W (.UnaryOp .Not a pos) (tNotT X.K ta) (uNotV ua) := ⟨pe_notT ha.run, fun {sg dl L H S T K X' Q} he hs h hq hx =>
  ha.imp he hs h (fun v d L1 H1 S1 l1 p1 s1 h1 => by
    obtain ⟨k, hk, q⟩ := tru_of (K' := X.K) s1 p1 h1
    exact ⟨k, hk, hq (.bl (!k)) (.bl (!k)) (Ladd L1 _ _) H1 S1 (l1.trans Ladd.le) Ladd.here (s1.flat rfl) q⟩) hx⟩
theorem imp_and [Tabl] (ha : ImpT W tA uA) (hb : ImpT W tB' uB) : ImpT W (tAnd tA tB') (uAnd uA uB) := fun {sg dl L H S T K X Q} he hs h hq hx =>
  ha he hs h (fun c L1 H1 S1 l1 s1 h1 => by
    cases c with
    | true => exact hb (he.le l1) s1 h1 (hq.le l1) (hx.le l1)
    | false => exact hq false L1 H1 S1 l1 s1 h1) hx
theorem imp_or [Tabl] (ha : ImpT W tA uA) (hb : ImpT W tB' uB) : ImpT W (tOr tA tB') (uOr uA uB) := fun {sg dl L H S T K X Q} he hs h hq hx =>
  ha he hs h (fun c L1 H1 S1 l1 s1 h1 => by
    cases c with
    | true => exact hq true L1 H1 S1 l1 s1 h1
    | false => exact hb (he.le l1) s1 h1 (hq.le l1) (hx.le l1)) hx
theorem dw_and1 [Tabl] (ha : DT X W a tA uA) : DW X W (.BoolOp .And [a] pos) tA uA := ⟨pw_and1 ha.run, ha.imp⟩
theorem dw_or1 [Tabl] (ha : DT X W a tA uA) : DW X W (.BoolOp .Or [a] pos) tA uA := ⟨pw_or1 ha.run, ha.imp⟩
theorem dw_and [Tabl] (ha : DT X W a tA uA) (hb : DW X W (.BoolOp .And (b :: rest) pos) tB' uB) : DW X W (.BoolOp .And (a :: b :: rest) pos) (tAnd tA tB') (uAnd uA uB) := ⟨pw_and ha.run hb.run, imp_and ha.imp hb.imp⟩
theorem dw_or [Tabl] (ha : DT X W a tA uA) (hb : DW X W (.BoolOp .Or (b :: rest) pos) tB' uB) : DW X W (.BoolOp .Or (a :: b :: rest) pos) (tOr tA tB') (uOr uA uB) := ⟨pw_or ha.run hb.run, imp_or ha.imp hb.imp⟩
theorem dt_not [Tabl] (ha : DT X W a tA uA) : DT X W (.UnaryOp .Not a pos) (tNot tA) (uNot uA) := ⟨pt_not ha.run, fun {sg dl L H S T K X' Q} he hs h hq hx => ha.imp he hs h (fun c L1 H1 S1 l1 s1 h1 => hq (!c) L1 H1 S1 l1 s1 h1) hx⟩
theorem de_if [Tabl] (hc : DT X W c tA uA) (ha : DE X W a ta ua) (hb : DE X W b tb ub) : DE X W (.IfExp c a b pos) (tIf tA ta tb) (uIf uA ua ub) := ⟨pe_ifExp hc.run ha.run hb.run, fun {sg dl L H S T K X' Q} he hs h hq hx =>
  hc.imp he hs h (fun k L1 H1 S1 l1 s1 h1 => by
    cases k with
    | true => exact ha.imp (he.le l1) s1 h1 (hq.le l1) (hx.le l1)
    | false => exact hb.imp (he.le l1) s1 h1 (hq.le l1) (hx.le l1)) hx⟩
end
end DL
/-! DL3: statements over data. -/
namespace DL
open PySem L2
structure DEnds where
  nx : Env' → Store → Prop
  rt : Dat → Store → Prop
  bk : Env' → Store → Prop := fun _ _ => False
  ct : Env' → Store → Prop := fun _ _ => False
  ex : Exc → Env' → Store → Prop := fun _ _ _ => False
abbrev US := DEnds → Env' → Store → Prop
/-- what the end of a statement over values must bear -/
def NOk [Tabl] (n : Nat) (L : LL) (T : List (Addr × HO)) (K : Env' → Store → Prop) (Q : St → Hp → Prop) : Prop := ∀ sg dl L' H' S', Lle L L' → sg.length = n → EnvIn sg dl L' → SR H' L' S' T → K dl S' → Q sg H'
def WOk [Tabl] (n : Nat) (W : WX) (L : LL) (T : List (Addr × HO)) (X : Exc → Env' → Store → Prop) : Prop := ∀ e dd sg dl L' H' S', Lle L L' → sg.length = n → EnvIn sg dl L' → L' (.ref dd) (.xd e.ns e.xs) → SR H' L' S' T → X e dl S' → W (.ref e.C) (some dd) sg H'
theorem NOk.le [Tabl] {n : Nat} {L L' : LL} {T : List (Addr × HO)} {K : Env' → Store → Prop} {Q : St → Hp → Prop} (x : NOk n L T K Q) (l : Lle L L') : NOk n L' T K Q := fun sg dl L2 H' S' h => x sg dl L2 H' S' (l.trans h)
theorem WOk.le [Tabl] {n : Nat} {W : WX} {L L' : LL} {T : List (Addr × HO)} {X : Exc → Env' → Store → Prop} (x : WOk n W L T X) (l : Lle L L') : WOk n W L' T X := fun e dd sg dl L2 H' S' h => x e dd sg dl L2 H' S' (l.trans h)
theorem WOk.x [Tabl] {n : Nat} {W : WX} {L : LL} {T : List (Addr × HO)} {X : Exc → Env' → Store → Prop} (x : WOk n W L T X) {sg : St} {dl : Env'} (hl : sg.length = n) (he : EnvIn sg dl L) : XOk W sg L T (fun e S => X e dl S) :=
  fun e dd L' H' S' h1 h2 h3 h4 => x e dd sg dl L' H' S' h1 hl (he.le h1) h2 h3 h4
structure SOk [Tabl] (n : Nat) (W : WX) (L : LL) (T : List (Addr × HO)) (D : DEnds) (D' : Ends) : Prop where
  nx : NOk n L T D.nx D'.nx
  rt : EOk L T D.rt D'.rt
  bk : NOk n L T D.bk D'.bk
  ct : NOk n L T D.ct D'.ct
  ex : WOk n W L T D.ex
theorem SOk.le [Tabl] {n : Nat} {W : WX} {L L' : LL} {T : List (Addr × HO)} {D : DEnds} {D' : Ends} (x : SOk n W L T D D') (l : Lle L L') : SOk n W L' T D D' := ⟨x.nx.le l, x.rt.le l, x.bk.le l, x.ct.le l, x.ex.le l⟩
def ImpS [Tabl] (W : WX) (t : TS) (u : US) : Prop := ∀ {sg dl L H S T D D'}, EnvIn sg dl L → SR H L S T → u D dl S → SOk sg.length W L T D D' → t D' sg H
structure DS [Tabl] (X : Cx) (W : WX) (s : Stmt) (t : TS) (u : US) : Prop where
  run : PS X s t
  imp : ImpS W t u
structure DSs [Tabl] (X : Cx) (W : WX) (s : List Stmt) (t : TS) (u : US) : Prop where
  run : PSs X s t
  imp : ImpS W t u
/-- targets -/
abbrev UG := Dat → Env' → Store → (Env' → Store → Prop) → KX → Prop
def GOk [Tabl] (sg : St) (ts : List Nat) (L : LL) (T : List (Addr × HO)) (K : Env' → Store → Prop) (Q : St → Hp → Prop) : Prop := ∀ sg' dl L' H' S', Lle L L' → sg'.length = sg.length → (∀ vs : List Nat, (∀ i ∈ ts, i ∈ vs) → wipe sg' vs = wipe sg vs) → EnvIn sg' dl L' → SR H' L' S' T → K dl S' → Q sg' H'
theorem NOk.g [Tabl] {n : Nat} {sg : St} {ts : List Nat} {L : LL} {T : List (Addr × HO)} {K : Env' → Store → Prop} {Q : St → Hp → Prop} (x : NOk n L T K Q) (h : sg.length = n) : GOk sg ts L T K Q := fun sg' dl L' H' S' l hl _ he hs hk => x sg' dl L' H' S' l (hl.trans h) he hs hk
/-- ts: the slots that the target stores into -/
def ImpG [Tabl] (W : WX) (t : TG) (u : UG) (ts : List Nat) : Prop := ∀ {sg dl L H S T v d K X Q}, EnvIn sg dl L → SR H L S T → L v d → u d dl S K X → GOk sg ts L T K Q → XOk W sg L T X → t v sg H Q
structure DG [Tabl] (X : Cx) (W : WX) (e : Expr) (t : TG) (u : UG) (ts : List Nat) : Prop where
  run : PG X e t
  imp : ImpG W t u ts
theorem wipe_set {sg : St} {i : Nat} {v : Option V} : ∀ {vs : List Nat}, i ∈ vs → wipe (sg.set i v) vs = wipe sg vs
  | j :: vs, h => by
    unfold wipe
    by_cases e : i ∈ vs
    · rw [wipe_set e]
    · have ej : i = j := by
        rcases List.mem_cons.mp h with q | q
        · exact q
        · exact absurd q e
      subst ej
      have key : ∀ us : List Nat, i ∉ us → wipe (sg.set i v) us = (wipe sg us).set i v := fun us => by
        induction us with
        | nil => intro _; rfl
        | cons k us ih =>
          intro hk
          unfold wipe
          have hne : i ≠ k := fun z => hk (z ▸ List.mem_cons_self)
          rw [ih fun z => hk (List.mem_cons_of_mem _ z), List.set_comm _ _ hne]
      rw [key vs e, List.set_set]
def uSeq (a b : US) : US := fun D dl S => a { D with nx := b D } dl S
/-- the rest is shown once, from a word between -/
def uCut (a b : US) : US := fun D dl S => ∃ M : Env' → Store → Prop, a { D with nx := M } dl S ∧ ∀ dl' S', M dl' S' → b D dl' S'
def uNext : US := fun D dl S => D.nx dl S
def uBreak : US := fun D dl S => D.bk dl S
def uCont : US := fun D dl S => D.ct dl S
def uDrop (ue : UE) : US := fun D dl S => ue dl S (fun _ S1 => D.nx dl S1) (fun e S1 => D.ex e dl S1)
def uRet (ue : UE) : US := fun D dl S => ue dl S (fun d S1 => D.rt d S1) (fun e S1 => D.ex e dl S1)
def uRetN : US := fun D _ S => D.rt .non S
def uIfS (c : UT) (a b : US) : US := fun D dl S => c dl S (fun k S1 => if k = true then a D dl S1 else b D dl S1) (fun e S1 => D.ex e dl S1)
def uName (i : Nat) : UG := fun d dl S K _ => i < dl.length ∧ K (dl.set i (some d)) S
def uSet (i : Nat) (ue : UE) : US := fun D dl S => ue dl S (fun d S1 => i < dl.length ∧ D.nx (dl.set i (some d)) S1) (fun e S1 => D.ex e dl S1)
def uAsg (ue : UE) (g : UG) : US := fun D dl S => ue dl S (fun d S1 => g d dl S1 D.nx (fun e S1 => D.ex e dl S1)) (fun e S1 => D.ex e dl S1)
def uPar (i j : Nat) (ua : UA) : US := fun D dl S => ua dl S (fun ds S1 => match ds with
  | [a, b] => i < dl.length ∧ j < dl.length ∧ D.nx ((dl.set i (some a)).set j (some b)) S1
  | _ => False) (fun e S1 => D.ex e dl S1)
section
variable {X : Cx} {W : WX} {s : Stmt} {ss : List Stmt} {t t' : TS} {u u' : US} {e : Expr} {te : TE} {ue : UE} {pos : Pos}
theorem EnvIn.set {sg : St} {dl : Env'} {L : LL} (he : EnvIn sg dl L) {i : Nat} {v : V} {d : Dat} (hi : i < dl.length) (h : L v d) : EnvIn (sg.set i (some v)) (dl.set i (some d)) L := by
  refine ⟨by rw [List.length_set, List.length_set]; exact he.1, fun k c hk => ?_⟩
  by_cases e : k = i
  · subst e
    rw [List.getElem?_set_self hi] at hk
    injection hk with hk
    injection hk with hk
    subst hk
    exact ⟨v, by rw [List.getElem?_set_self (by rw [he.1]; exact hi)], h⟩
  · rw [List.getElem?_set_ne (Ne.symm e)] at hk
    obtain ⟨w, h1, h2⟩ := he.2 k c hk
    exact ⟨w, by rw [List.getElem?_set_ne (Ne.symm e)]; exact h1, h2⟩
theorem dss_nil [Tabl] : DSs X W [] tNext uNext := ⟨pss_nil, fun {sg dl L H S T D D'} he hs h hk => hk.nx sg dl L H S (.refl L) rfl he hs h⟩
theorem imp_seq [Tabl] (h1 : ImpS W t u) (h2 : ImpS W t' u') : ImpS W (tSeq t t') (uSeq u u') := fun {sg dl L H S T D D'} he hs h hk =>
  h1 (D := { D with nx := u' D }) (D' := { D' with nx := t' D' }) he hs h ⟨fun sg' dl' L' H' S' l hl he' hs' h' => h2 he' hs' h' (by rw [hl]; exact hk.le l), hk.rt, hk.bk, hk.ct, hk.ex⟩
theorem dss_cons [Tabl] (h1 : DS X W s t u) (h2 : DSs X W ss t' u') : DSs X W (s :: ss) (tSeq t t') (uSeq u u') := ⟨pss_cons h1.run h2.run, imp_seq h1.imp h2.imp⟩
theorem dss_one [Tabl] (h1 : DS X W s t u) : DSs X W [s] t u := ⟨pss_one h1.run, h1.imp⟩
theorem ds_expr [Tabl] (h : DE X W e te ue) (hs : swapsWith e none pos.line X.env = pure false := by rfl) : DS X W (.Expr e pos) (tDrop te) (uDrop ue) := ⟨ps_expr h.run hs, fun {sg dl L H S T D D'} he hs h' hk =>
  h.imp he hs h' (fun v d L1 H1 S1 l1 p1 s1 h1 => hk.nx sg dl L1 H1 S1 l1 rfl (he.le l1) s1 h1) (hk.ex.x rfl he)⟩
theorem ds_ret [Tabl] (h : DE X W e te ue) : DS X W (.Return (some e) pos) (tRet te) (uRet ue) := ⟨ps_ret h.run, fun {sg dl L H S T D D'} he hs h' hk => h.imp he hs h' hk.rt (hk.ex.x rfl he)⟩
theorem ds_if [Tabl] {c : Expr} {a b : List Stmt} {tc : TT} {uc : UT} {ta tb : TS} {ua ub : US} (hc : DT X W c tc uc) (ha : DSs X W a ta ua) (hb : DSs X W b tb ub) : DS X W (.If c a b pos) (tIfS tc ta tb) (uIfS uc ua ub) := ⟨ps_if hc.run ha.run hb.run, fun {sg dl L H S T D D'} he hs h' hk =>
  hc.imp he hs h' (fun k L1 H1 S1 l1 s1 h1 => by
    cases k with
    | true => exact ha.imp (he.le l1) s1 h1 (hk.le l1)
    | false => exact hb.imp (he.le l1) s1 h1 (hk.le l1)) (hk.ex.x rfl he)⟩
theorem dg_name [Tabl] {i : Nat} {x : Str} (hN : X.N.Nodup) (hi : X.N[i]? = some x := by rfl) (hx : Loc X.env.scope x := by first | exact Or.inl rfl | exact Or.inr rfl) (hf : X.fn x = true ∨ X.env.scope.names.lookup x = some .local := by first | exact .inl rfl | exact .inr rfl | assumption) : DG X W (.Name x pos) (gName i) (uName i) [i] :=
  ⟨pg_name hN hi hx hf, fun {sg dl L H S T v d K X' Q} he hs hp h hk _ => hk (sg.set i (some v)) (dl.set i (some d)) L H S (.refl L) (List.length_set ..) (fun vs hv => wipe_set (hv i List.mem_cons_self)) (he.set h.1 hp) hs h.2⟩
theorem ds_asg [Tabl] {tg : Expr} {g : TG} {ug : UG} {ts : List Nat} (h : DE X W e te ue) (hg : DG X W tg g ug ts) (hs : swapsWithSole [tg] e pos.line X.env = pure false := by rfl) (hw : swappedStores [tg] e X.env = pure none := by rfl)
    (h1 : (assignEach [tg] X.env).map (·.2) = [assign tg X.env] := by rfl) : DS X W (.Assign [tg] e pos) (tAsg te g) (uAsg ue ug) := ⟨ps_asg h.run hg.run hs hw h1, fun {sg dl L H S T D D'} he hs h' hk =>
  h.imp he hs h' (fun v d L1 H1 S1 l1 p1 s1 h1 => hg.imp (he.le l1) s1 p1 h1 ((hk.nx.le l1).g rfl) ((hk.ex.x rfl he).le l1)) (hk.ex.x rfl he)⟩
theorem ds_set [Tabl] {i : Nat} {x : Str} {p : Pos} (hN : X.N.Nodup) (h : DE X W e te ue) (hi : X.N[i]? = some x := by rfl) (hx : Loc X.env.scope x := by first | exact Or.inl rfl | exact Or.inr rfl) (hf : X.fn x = true ∨ X.env.scope.names.lookup x = some .local := by first | exact .inl rfl | exact .inr rfl | assumption)
    (hs : swapsWithSole [.Name x p] e pos.line X.env = pure false := by rfl) (hw : swappedStores [.Name x p] e X.env = pure none := by rfl)
    (h1 : (assignEach [.Name x p] X.env).map (·.2) = [assign (.Name x p) X.env] := by rfl) : DS X W (.Assign [.Name x p] e pos) (tAsg te (gName i)) (uSet i ue) := ⟨ps_asg h.run (pg_name hN hi hx hf) hs hw h1, fun {sg dl L H S T D D'} he hs h' hk =>
  h.imp he hs h' (fun v d L1 H1 S1 l1 p1 s1 h1 => hk.nx (sg.set i (some v)) (dl.set i (some d)) L1 H1 S1 l1 (List.length_set ..) ((he.le l1).set h1.1 p1) s1 h1.2) (hk.ex.x rfl he)⟩
theorem ds_par [Tabl] {i j : Nat} {x y : Str} {a b : Expr} {ta : TA} {ua : UA} {px py pt : Pos} {kt k2 pt2} (hc : X.calm = true) (hN : X.N.Nodup) (ha : DA X W [a, b] ta ua) (hi : X.N[i]? = some x := by rfl) (hj : X.N[j]? = some y := by rfl) (hij : i ≠ j := by decide)
    (hx : X.env.scope.names.lookup x = some .local := by rfl) (hy : X.env.scope.names.lookup y = some .local := by rfl)
    (hw : swappedStores [.Tuple [.Name x px, .Name y py] kt pt] (.Tuple [a, b] k2 pt2) X.env = pure (some [x, y]) := by rfl)
    (hs : swapsWithSole [.Tuple [.Name x px, .Name y py] kt pt] (.Tuple [a, b] k2 pt2) pos.line X.env = pure false := by rfl) :
    DS X W (.Assign [.Tuple [.Name x px, .Name y py] kt pt] (.Tuple [a, b] k2 pt2) pos) (tPar i j ta) (uPar i j ua) := ⟨ps_par hc hN hi hj hij hx hy ha.run hw hs, fun {sg dl L H S T D D'} he hs h' hk =>
  ha.imp he hs h' (fun vs ds L1 H1 S1 l1 p1 s1 h1 => by
    match vs, ds, p1, h1 with
    | [v, w], [c, d], p1, h1 =>
      refine ⟨v, w, rfl, hk.nx _ _ L1 H1 S1 l1 (by rw [List.length_set, List.length_set]) (((he.le l1).set h1.1 p1.1).set (by rw [List.length_set]; exact h1.2.1) p1.2.1) s1 h1.2.2⟩
    | [], [], _, h1 => exact h1.elim
    | [_], [_], _, h1 => exact h1.elim
    | _ :: _ :: _ :: _, _ :: _ :: _ :: _, _, h1 => exact h1.elim
    | [], _ :: _, p1, _ => exact p1.elim
    | _ :: _, [], p1, _ => exact p1.elim
    | [_], _ :: _ :: _, p1, _ => exact p1.2.elim
    | _ :: _ :: _, [_], p1, _ => exact p1.2.elim
    | [_, _], _ :: _ :: _ :: _, p1, _ => exact p1.2.2.elim
    | _ :: _ :: _ :: _, [_, _], p1, _ => exact p1.2.2.elim) (hk.ex.x rfl he)⟩
/-! what is no longer wanted may be dropped -/
structure Gc (N : Nat) (dl : Env') (S : Store) (dl2 : Env') (S2 : Store) : Prop where
  pre : ∃ R, S = S2 ++ R
  enough : N ≤ S2.length
  bel : belows S2.length S2
  slots : dl2.length = dl.length ∧ ∀ (i : Nat) d, dl2[i]? = some (some d) → dl[i]? = some (some d) ∧ below S2.length d
def GcTo (N : Nat) (J : Env' → Store → Prop) : Env' → Store → Prop := fun dl S => J dl S ∨ ∃ dl2 S2, Gc N dl S dl2 S2 ∧ J dl2 S2
theorem belows_mem {n : Nat} : ∀ {ds : List Dat} {d : Dat}, belows n ds → d ∈ ds → below n d
  | c :: ds, d, h, m => by
    simp only [belows] at h
    rcases List.mem_cons.mp m with e | e
    · subst e; exact h.1
    · exact belows_mem h.2 e
theorem Node.trim {H : Hp} {R R' rho : List Addr} {n : Nat} {a : Addr} {d : Dat} (hR : ∀ a, a ∈ R' → a ∈ R) (h : Node H R rho a d) (b : below n d) : Node H R' (rho.take n) a d := by
  cases d with
  | lst xs => obtain ⟨vs, e, r⟩ := h; simp only [below] at b; exact ⟨vs, e, RDs.trim hR r b⟩
  | dct ks xs => obtain ⟨vs, e, l, r⟩ := h; simp only [below] at b; exact ⟨vs, e, l, RDs.trim hR r b⟩
  | dtt ks xs => obtain ⟨vs, e, l, r⟩ := h; simp only [below] at b; exact ⟨vs, e, l, RDs.trim hR r b⟩
  | ins C ns xs => obtain ⟨dx, vs, e, l, r⟩ := h; simp only [below] at b; exact ⟨dx, vs, e, l, RDs.trim hR r b⟩
  | _ => exact h.elim
/-- the cells from n on are dropped; pairs that lie below stay -/
theorem SRx.cutAt [Tabl] {H : Hp} {L L2 : LL} {S2 R : Store} {T : List (Addr × HO)} {rho : List Addr} (s : SRx H L (S2 ++ R) T rho) (hb : belows S2.length S2)
    (hL : ∀ v d, L2 v d → RD H (rho.take S2.length ++ T.map (·.1)) (rho.take S2.length) d v) (hO : ∀ v d, Tabl.own v d → DL.below S2.length d) : SRx H L2 S2 T (rho.take S2.length) := by
  have hle : S2.length ≤ rho.length := by rw [s.len, List.length_append]; omega
  have hsub : ∀ a, a ∈ rho.take S2.length ++ T.map (·.1) → a ∈ rho ++ T.map (·.1) := fun a h => by
    rcases List.mem_append.mp h with h | h
    · exact List.mem_append_left _ (List.mem_of_mem_take h)
    · exact List.mem_append_right _ h
  refine ⟨by rw [List.length_take]; omega, ?_, fun n a d h1 h2 => ?_, s.pin, hL, s.tab, s.cel, fun v d h => RD.trim hsub (s.own v d h) (hO v d h), s.ntb⟩
  · refine List.Nodup.sublist (List.Sublist.append (List.take_sublist _ _) (List.Sublist.refl _)) s.nd
  · have hn : n < S2.length := (List.getElem?_eq_some_iff.mp h2).1
    rw [List.getElem?_take, if_pos hn] at h1
    have h3 : (S2 ++ R)[n]? = some d := by rw [List.getElem?_append_left hn]; exact h2
    exact (s.node n a d h1 h3).trim hsub (belows_mem hb (List.mem_of_getElem? h2))
theorem SR.below [Tabl] {H : Hp} {L : LL} {S : Store} {T : List (Addr × HO)} (s : SR H L S T) {v : V} {d : Dat} (h : L v d) : below S.length d := by
  obtain ⟨rho, x⟩ := s
  rw [← x.len]
  exact (x.rd v d h).below
mutual
theorem below.mono {n m : Nat} (h : n ≤ m) : ∀ {d : Dat}, below n d → below m d
  | .non, _ => by simp only [DL.below]
  | .bl _, _ => by simp only [DL.below]
  | .int _, _ => by simp only [DL.below]
  | .str _, _ => by simp only [DL.below]
  | .raw _, _ => by simp only [DL.below]
  | .lst xs, b => by simp only [DL.below] at b ⊢; exact belows.mono h b
  | .tup xs, b => by simp only [DL.below] at b ⊢; exact belows.mono h b
  | .dct ks xs, b => by simp only [DL.below] at b ⊢; exact belows.mono h b
  | .dtt ks xs, b => by simp only [DL.below] at b ⊢; exact belows.mono h b
  | .sq _ _, _ => by simp only [DL.below]
  | .ins C ns xs, b => by simp only [DL.below] at b ⊢; exact belows.mono h b
  | .xd ns xs, b => by simp only [DL.below] at b ⊢; exact belows.mono h b
  | .cell k, b => by simp only [DL.below] at b ⊢; omega
  | .fn _ _, _ => by simp only [DL.below]
  | .exv _ _ _ xs, b => by simp only [DL.below] at b ⊢; exact belows.mono h b
theorem belows.mono {n m : Nat} (h : n ≤ m) : ∀ {ds : List Dat}, belows n ds → belows m ds
  | [], _ => by simp only [DL.belows]
  | d :: ds, b => by simp only [DL.belows] at b ⊢; exact ⟨below.mono h b.1, belows.mono h b.2⟩
end
theorem SR.ownB [Tabl] {H : Hp} {L : LL} {S : Store} {T : List (Addr × HO)} (s : SR H L S T) : ∀ v d, Tabl.own v d → DL.below S.length d := fun v d h => by
  obtain ⟨rho, x⟩ := s
  rw [← x.len]
  exact (x.own v d h).below
theorem Gc.go [Tabl] {N : Nat} {sg : St} {dl dl2 : Env'} {S S2 : Store} {H : Hp} {L L' : LL} {T : List (Addr × HO)} (g : Gc N dl S dl2 S2) (hN : ∀ v d, L v d → DL.below N d) (hW : ∀ v d, Tabl.own v d → DL.below N d) (l : Lle L L') (he : EnvIn sg dl L') (hs : SR H L' S T) :
    ∃ L2, Lle L L2 ∧ EnvIn sg dl2 L2 ∧ SR H L2 S2 T := by
  obtain ⟨⟨R, rfl⟩, hn, hb, hsl⟩ := g
  obtain ⟨rho, x⟩ := hs
  have hsub : ∀ a, a ∈ rho.take S2.length ++ T.map (·.1) → a ∈ rho ++ T.map (·.1) := fun a h => by
    rcases List.mem_append.mp h with h | h
    · exact List.mem_append_left _ (List.mem_of_mem_take h)
    · exact List.mem_append_right _ h
  refine ⟨fun v d => L v d ∨ (L' v d ∧ ∃ i : Nat, sg[i]? = some (some v) ∧ dl2[i]? = some (some d)), fun v d h => .inl h, ⟨by rw [he.1, hsl.1], fun i d h => ?_⟩, _, x.cutAt hb (fun v d h => ?_) fun v d h => (hW v d h).mono hn⟩
  · obtain ⟨h1, h2⟩ := hsl.2 i d h
    obtain ⟨v, h3, h4⟩ := he.2 i d h1
    exact ⟨v, h3, .inr ⟨h4, i, h3, h⟩⟩
  · rcases h with h | ⟨h, i, h1, h2⟩
    · exact RD.trim hsub (x.rd v d (l v d h)) ((hN v d h).mono hn)
    · exact RD.trim hsub (x.rd v d h) (hsl.2 i d h2).2
theorem NOk.gc [Tabl] {n N : Nat} {L : LL} {T : List (Addr × HO)} {J : Env' → Store → Prop} {Q : St → Hp → Prop} (hN : ∀ v d, L v d → DL.below N d) (hW : ∀ v d, Tabl.own v d → DL.below N d) (x : NOk n L T J Q) : NOk n L T (GcTo N J) Q := fun sg dl L' H' S' l hl he hs h => by
  rcases h with h | ⟨dl2, S2, g, h⟩
  · exact x sg dl L' H' S' l hl he hs h
  · obtain ⟨L2, l2, he2, hs2⟩ := g.go hN hW l he hs
    exact x sg dl2 L2 H' S2 l2 hl he2 hs2 h
/-- a word between, with what is no longer wanted dropped -/
def uCutG (a b : US) : US := fun D dl S => ∃ M : Env' → Store → Prop, a { D with nx := GcTo S.length M } dl S ∧ ∀ dl' S', M dl' S' → b D dl' S'
/-! while -/
def uWhile (c : UT) (b : US) : US := fun D dl S => ∃ I : Nat → Env' → Store → Prop, (∃ m, I m dl S) ∧ ∀ m dl1 S1, I m dl1 S1 →
  c dl1 S1 (fun k S2 => if k = true then b { D with nx := GcTo S.length fun dl' S' => ∃ m', m' < m ∧ I m' dl' S', ct := GcTo S.length fun dl' S' => ∃ m', m' < m ∧ I m' dl' S', bk := D.nx } dl1 S2 else D.nx dl1 S2) (fun e S2 => D.ex e dl1 S2)
theorem ds_while [Tabl] {c : Expr} {body : List Stmt} {tc : TT} {uc : UT} {tb : TS} {ub : US} (hp : PassesOwn (model X.prog X.w) X.A X.env X.xe) (hc : DT X W c tc uc) (hb : DSs X W body tb ub) : DS X W (.While c body [] pos) (tWhile tc tb) (uWhile uc ub) :=
  ⟨ps_while hp hc.run hb.run, fun {sg dl L H S T D D'} he hs h hk => by
    obtain ⟨I, ⟨m0, h0⟩, hI⟩ := h
    refine ⟨fun m sg1 H1 => ∃ dl1 L1 S1, Lle L L1 ∧ sg1.length = sg.length ∧ EnvIn sg1 dl1 L1 ∧ SR H1 L1 S1 T ∧ I m dl1 S1, ⟨m0, dl, L, S, .refl L, rfl, he, hs, h0⟩, ?_⟩
    rintro m sg1 H1 ⟨dl1, L1, S1, l1, hl1, he1, hs1, hi⟩
    have hk1 := hk.le l1
    rw [← hl1] at hk1
    refine hc.imp he1 hs1 (hI m dl1 S1 hi) (fun k L2 H2 S2 l2 s2 h2 => ?_) (hk1.ex.x rfl he1)
    cases k with
    | true =>
      refine ⟨fun sg2 H2 => ∃ m', m' < m ∧ ∃ dl1 L1 S1, Lle L L1 ∧ sg2.length = sg.length ∧ EnvIn sg2 dl1 L1 ∧ SR H2 L1 S1 T ∧ I m' dl1 S1, fun sg2 H2 h => h, ?_⟩
      have hn : NOk sg1.length L T (GcTo S.length fun dl' S' => ∃ m', m' < m ∧ I m' dl' S') (fun sg2 H2 => ∃ m', m' < m ∧ ∃ dl1 L1 S1, Lle L L1 ∧ sg2.length = sg.length ∧ EnvIn sg2 dl1 L1 ∧ SR H2 L1 S1 T ∧ I m' dl1 S1) :=
        NOk.gc (fun v d h => hs.below h) hs.ownB fun sg' dl' L' H' S' l hl he' hs' ⟨m', hm, h'⟩ => ⟨m', hm, dl', L', S', l, hl.trans hl1, he', hs', h'⟩
      exact hb.imp (D := { D with nx := _, ct := _, bk := D.nx }) (he1.le l2) s2 h2 ⟨hn.le (l1.trans l2), hk1.rt.le l2, hk1.nx.le l2, hn.le (l1.trans l2), hk1.ex.le l2⟩
    | false => exact hk1.nx sg1 dl1 L2 H2 S2 l2 rfl (he1.le l2) s2 h2⟩
/-! for: what is walked is known ahead -/
structure ItI [Tabl] (J : It) (ds : List Dat) (L0 : LL) (P : Store → Prop) : Prop where
  go : ∀ (i : Nat) H L S T, Lle L0 L → SR H L S T → P S → i < ds.length → J.go i H
  yld : ∀ (i : Nat) H L S T x H' d, Lle L0 L → SR H L S T → P S → ds[i]? = some d → J.yld i H x H' → ∃ L', Lle L L' ∧ L' x d ∧ SR H' L' S T
  stop : ∀ (i : Nat) H L S T, Lle L0 L → SR H L S T → P S → i = ds.length → J.stop i H
abbrev UI := Env' → Store → (List Dat → (Store → Prop) → Store → Prop) → KX → Prop
def ImpI [Tabl] (W : WX) (t : TI) (u : UI) : Prop := ∀ {sg dl L H S T R X Q}, EnvIn sg dl L → SR H L S T → u dl S R X → (∀ J ds P L1 H1 S1, Lle L L1 → SR H1 L1 S1 T → ItI J ds L1 P → R ds P S1 → Q J H1) → XOk W sg L T X → t sg H Q
structure DI [Tabl] (X : Cx) (W : WX) (tg e : Expr) (t : TI) (u : UI) : Prop where
  run : PI X tg e t
  imp : ImpI W t u
def uFor (i : UI) (g : UG) (b : US) : US := fun D dl S => i dl S (fun ds P S1 => ∃ I : Nat → Env' → Store → Prop, I 0 dl S1 ∧
  (∀ (i : Nat) d dl1 S2, ds[i]? = some d → I i dl1 S2 → P S2 ∧ g d dl1 S2 (fun dl2 S3 => b { D with nx := GcTo S1.length (I (i + 1)), ct := GcTo S1.length (I (i + 1)), bk := D.nx } dl2 S3) (fun e S3 => D.ex e dl1 S3)) ∧
  ∀ dl1 S2, I ds.length dl1 S2 → P S2 ∧ D.nx dl1 S2) (fun e S1 => D.ex e dl S1)
theorem ds_for [Tabl] {tg iter : Expr} {body : List Stmt} {wi : TI} {ui : UI} {g : TG} {ug : UG} {ts : List Nat} {tb : TS} {ub : US} (hp : PassesOwn (model X.prog X.w) X.A X.env X.xe) (hc : X.calm = true) (hi : DI X W tg iter wi ui) (hg : DG X W tg g ug ts) (hb : DSs X W body tb ub)
    (hq : ∀ x, foldedSetIterable iter X.env x = pure x := by intro _; rfl) : DS X W (.For tg iter body [] pos) (tFor wi g tb) (uFor ui ug ub) :=
  ⟨ps_for hp hc hi.run hg.run hb.run hq, fun {sg dl L H S T D D'} he hs h hk => by
    refine hi.imp he hs h (fun J ds P L1 H1 S1 l1 s1 hJ h1 => ?_) (hk.ex.x rfl he)
    obtain ⟨I, h0, hI, hd⟩ := h1
    refine ⟨fun i m sg2 H2 => m = ds.length - i ∧ i ≤ ds.length ∧ ∃ dl2 L2 S2, Lle L1 L2 ∧ sg2.length = sg.length ∧ EnvIn sg2 dl2 L2 ∧ SR H2 L2 S2 T ∧ I i dl2 S2, ⟨_, rfl, Nat.zero_le _, dl, L1, S1, .refl _, rfl, he.le l1, s1, h0⟩, ?_⟩
    rintro i m sg2 H2 ⟨rfl, hi2, dl2, L2, S2, l2, hl2, he2, s2, h2⟩
    have hk2 := hk.le (l1.trans l2)
    rw [← hl2] at hk2
    by_cases hlt : i < ds.length
    · obtain ⟨hP, hb2⟩ := hI i ds[i] dl2 S2 (List.getElem?_eq_getElem hlt) h2
      refine .inr ⟨hJ.go i H2 L2 S2 T l2 s2 hP hlt, fun sg' H' => ∃ m', m' < ds.length - i ∧ m' = ds.length - (i + 1) ∧ i + 1 ≤ ds.length ∧ ∃ dl2 L2 S2, Lle L1 L2 ∧ sg'.length = sg.length ∧ EnvIn sg' dl2 L2 ∧ SR H' L2 S2 T ∧ I (i + 1) dl2 S2, fun sg' H' h => h, fun x H' hy => ?_⟩
      obtain ⟨L3, l3, p3, s3⟩ := hJ.yld i H2 L2 S2 T x H' ds[i] l2 s2 hP (List.getElem?_eq_getElem hlt) hy
      refine hg.imp (he2.le l3) s3 p3 hb2 (fun sg4 dl4 L4 H4 S4 l4 hl4 _ he4 s4 h4 => ?_) ((hk2.ex.x rfl he2).le l3)
      have hn : NOk sg2.length L1 T (GcTo S1.length (I (i + 1))) (fun sg' H' => ∃ m', m' < ds.length - i ∧ m' = ds.length - (i + 1) ∧ i + 1 ≤ ds.length ∧ ∃ dl2 L2 S2, Lle L1 L2 ∧ sg'.length = sg.length ∧ EnvIn sg' dl2 L2 ∧ SR H' L2 S2 T ∧ I (i + 1) dl2 S2) :=
        NOk.gc (fun v d h => s1.below h) s1.ownB fun sg' dl' L' H' S' l hl he' hs' h' => ⟨_, by omega, rfl, hlt, dl', L', S', l, hl.trans hl2, he', hs', h'⟩
      have hk4 := hk2.le (l3.trans l4)
      rw [← hl4] at hk4 hn
      exact hb.imp (D := { D with nx := _, ct := _, bk := D.nx }) he4 s4 h4 ⟨hn.le ((l2.trans l3).trans l4), hk4.rt, hk4.nx, hn.le ((l2.trans l3).trans l4), hk4.ex⟩
    · have e : i = ds.length := by omega
      subst e
      obtain ⟨hP, hn⟩ := hd dl2 S2 h2
      exact .inl ⟨hJ.stop ds.length H2 L2 S2 T l2 s2 hP rfl, hk2.nx sg2 dl2 L2 H2 S2 (.refl _) rfl he2 s2 hn⟩⟩
end
end DL
/-! DL4: defs, their calls; comprehensions; targets of several. -/
namespace DL
open PySem L2 PyProof.Rows
/-- what a def promises, over data -/
abbrev Spec := List Dat → Store → KE → KX → Prop
def spOf [Tabl] (F : Spec) : Sp := fun vs H Q E => ∃ ds L S T K X, Ls L vs ds ∧ SR H L S T ∧ F ds S K X ∧ EOk L T K Q ∧
  ∀ e dd L' H' S', Lle L L' → L' (.ref dd) (.xd e.ns e.xs) → SR H' L' S' T → X e S' → E (.ref e.C) (some dd) H'
def uCall (F : Spec) (dd : List Dat) (ua : UA) : UE := fun dl S K X => ua dl S (fun ds S1 => F (ds ++ dd) S1 K X) X
def Flats : List Dat → List V → Prop
  | [], [] => True
  | d :: ds, v :: vs => Flat d v ∧ Flats ds vs
  | _, _ => False
section
variable {H : Hp} {L : LL} {S : Store} {T : List (Addr × HO)}
theorem SR.flats [Tabl] (s : SR H L S T) : ∀ {ds : List Dat} {vs : List V}, Flats ds vs → ∃ L', Lle L L' ∧ Ls L' vs ds ∧ SR H L' S T
  | [], [], _ => ⟨L, .refl L, True.intro, s⟩
  | d :: ds, v :: vs, h => by
    obtain ⟨L1, l1, p1, s1⟩ := SR.flats s (ds := ds) (vs := vs) h.2
    exact ⟨Ladd L1 v d, l1.trans Ladd.le, ⟨Ladd.here, p1.le Ladd.le⟩, s1.flat h.1⟩
  | [], _ :: _, h => h.elim
  | _ :: _, [], h => h.elim
end
section
variable {X : Cx} {W : WX} {k : Nat} {f : Addr} {fd : FuncData} {ps : List Str} {F : Spec} {x : Str} {p pos : Pos} {e : Expr} {es : List Expr} {t : TA} {u : UA} {dvs : List V} {dd : List Dat} {dl' : List Value}
theorem de_call [Tabl] (F' : FnOk X.prog X.w X.K X.mg X.base (L2.CX X.prog X.w) k f fd ps (spOf F)) (hr : Room k X.A) (hm : X.mg x = some (.ref f)) (hk : PySem.W.keepIn X.K (.ref f) = true) (hb : Binds X.K fd ps dl') (hd : Vals dvs dl') (hf : Flats dd dvs) (tk : Takes X W)
    (ha : DA X W (e :: es) t u) (hg : Gl X x := by rfl) (hdb : (x == ("__debug__" : Str)) = false := by decide) (he : starEach (e :: es) X.env = (false, eval e X.env) :: starEach es X.env := by rfl) (hpl : (backTo pos (starEach es X.env)).any (·.1) = false := by rfl) :
    DE X W (.Call (.Name x p) (e :: es) [] pos) (tCallSD (spOf F) dvs (WE W) t) (uCall F dd u) :=
  ⟨pe_callSD F' hr hg hm hk hb hd (fun sg => passAt tk sg) ha.run hdb he hpl, fun {sg dl L H S T K X' Q} he hs h hq hx =>
    ha.imp he hs h (fun vs ds L1 H1 S1 l1 p1 s1 h1 => by
      obtain ⟨L2, l2, p2, s2⟩ := s1.flats hf
      exact ⟨ds ++ dd, L2, S1, T, K, X', (p1.le l2).append p2, s2, h1, hq.le (l1.trans l2), fun e dd L' H' S' l => hx e dd L' H' S' ((l1.trans l2).trans l)⟩) hx⟩
end
/-! ### the way out of a def -/
/-- d with the places from n on read off -/
inductive Res (n : Nat) (S : Store) : Dat → Dat → Prop where
  | same {d : Dat} : below n d → Res n S d d
  | cell {m : Nat} {d d' : Dat} : n ≤ m → S[m]? = some d → Res n S d d' → Res n S (.cell m) d'
  | lst {xs ys : List Dat} : xs.length = ys.length → (∀ (i : Nat) x y, xs[i]? = some x → ys[i]? = some y → Res n S x y) → Res n S (.lst xs) (.lst ys)
  | tup {xs ys : List Dat} : xs.length = ys.length → (∀ (i : Nat) x y, xs[i]? = some x → ys[i]? = some y → Res n S x y) → Res n S (.tup xs) (.tup ys)
  | dct {ks : List Key} {xs ys : List Dat} : xs.length = ys.length → (∀ (i : Nat) x y, xs[i]? = some x → ys[i]? = some y → Res n S x y) → Res n S (.dct ks xs) (.dct ks ys)
  | dtt {ks : List (List Key)} {xs ys : List Dat} : xs.length = ys.length → (∀ (i : Nat) x y, xs[i]? = some x → ys[i]? = some y → Res n S x y) → Res n S (.dtt ks xs) (.dtt ks ys)
  | ins {C : Addr} {ns : List Str} {xs ys : List Dat} : xs.length = ys.length → (∀ (i : Nat) x y, xs[i]? = some x → ys[i]? = some y → Res n S x y) → Res n S (.ins C ns xs) (.ins C ns ys)
  | xd {ns : List Str} {xs ys : List Dat} : xs.length = ys.length → (∀ (i : Nat) x y, xs[i]? = some x → ys[i]? = some y → Res n S x y) → Res n S (.xd ns xs) (.xd ns ys)
section
variable {H : Hp} {R R' rho rho' : List Addr}
theorem rds_res {xs ys : List Dat} (hl : xs.length = ys.length) (h : ∀ (i : Nat) x y, xs[i]? = some x → ys[i]? = some y → ∀ v, RD H R rho x v → RD H R' rho' y v) : ∀ {vs : List V}, RDs H R rho xs vs → RDs H R' rho' ys vs := fun {vs} r => by
  have q := RDs.ls (LR := fun v d => RD H R rho d v) (fun _ _ h => h) r
  refine Ls.rds (L := fun v d => RD H R' rho' d v) (fun _ _ h => h) (Ls.of (by rw [q.length, hl]) fun i v d e1 e2 => ?_)
  obtain ⟨c, e3, r⟩ := q.getV e1
  exact h i c d e3 e2 v r
/-- what Res says of the bearing -/
theorem Res.rd {n : Nat} {S : Store} {T : List (Addr × HO)} (hn : ∀ (m : Nat) a d, rho[m]? = some a → S[m]? = some d → Node H R rho a d) (hR : ∀ a, a ∈ R' → a ∈ R) (hout : ∀ (m : Nat) a, n ≤ m → rho[m]? = some a → a ∉ R') (hlen : rho.length = S.length) {d d' : Dat} (r : Res n S d d') :
    (∀ v, RD H R rho d v → RD H R' (rho.take n) d' v) ∧ ∀ a, Node H R rho a d → a ∉ R' → RD H R' (rho.take n) d' (.ref a) := by
  induction r with
  | same b =>
    rename_i d
    refine ⟨fun v h => RD.trim hR h b, fun a h na => ?_⟩
    cases d with
    | lst xs => obtain ⟨vs, e, q⟩ := h; simp only [DL.below] at b; simp only [RD]; exact ⟨a, vs, rfl, na, e, RDs.trim hR q b⟩
    | dct ks xs => obtain ⟨vs, e, l, q⟩ := h; simp only [DL.below] at b; simp only [RD]; exact ⟨a, vs, rfl, na, .inl e, l, RDs.trim hR q b⟩
    | dtt ks xs => obtain ⟨vs, e, l, q⟩ := h; simp only [DL.below] at b; simp only [RD]; exact ⟨a, vs, rfl, na, .inl e, l, RDs.trim hR q b⟩
    | ins C ns xs => obtain ⟨dx, vs, e, l, q⟩ := h; simp only [DL.below] at b; simp only [RD]; exact ⟨a, dx, vs, rfl, na, e, l, RDs.trim hR q b⟩
    | _ => exact h.elim
  | cell hm he _ ih =>
    refine ⟨fun v h => ?_, fun a h => h.elim⟩
    simp only [RD] at h
    obtain ⟨a, ha, e⟩ := h
    subst e
    exact ih.2 a (hn _ a _ ha he) (hout _ a hm ha)
  | lst hl _ ih =>
    have key : ∀ {vs : List V}, RDs H R rho _ vs → RDs H R' (rho.take n) _ vs := fun {vs} q => rds_res hl (fun i x y e1 e2 => (ih i x y e1 e2).1) q
    refine ⟨fun v h => ?_, fun a h na => ?_⟩
    · simp only [RD] at h ⊢
      obtain ⟨a, vs, e, ha, q1, q2⟩ := h
      exact ⟨a, vs, e, fun z => ha (hR a z), q1, key q2⟩
    · obtain ⟨vs, e, q⟩ := h
      simp only [RD]
      exact ⟨a, vs, rfl, na, e, key q⟩
  | tup hl _ ih =>
    have key : ∀ {vs : List V}, RDs H R rho _ vs → RDs H R' (rho.take n) _ vs := fun {vs} q => rds_res hl (fun i x y e1 e2 => (ih i x y e1 e2).1) q
    refine ⟨fun v h => ?_, fun a h na => h.elim⟩
    simp only [RD] at h ⊢
    obtain ⟨a, vs, e, ha, q1, q2⟩ := h
    exact ⟨a, vs, e, fun z => ha (hR a z), q1, key q2⟩
  | dct hl _ ih =>
    have key : ∀ {vs : List V}, RDs H R rho _ vs → RDs H R' (rho.take n) _ vs := fun {vs} q => rds_res hl (fun i x y e1 e2 => (ih i x y e1 e2).1) q
    refine ⟨fun v h => ?_, fun a h na => ?_⟩
    · simp only [RD] at h ⊢
      obtain ⟨a, vs, e, ha, q1, l, q2⟩ := h
      exact ⟨a, vs, e, fun z => ha (hR a z), q1, l, key q2⟩
    · obtain ⟨vs, e, l, q⟩ := h
      simp only [RD]
      exact ⟨a, vs, rfl, na, .inl e, l, key q⟩
  | dtt hl _ ih =>
    have key : ∀ {vs : List V}, RDs H R rho _ vs → RDs H R' (rho.take n) _ vs := fun {vs} q => rds_res hl (fun i x y e1 e2 => (ih i x y e1 e2).1) q
    refine ⟨fun v h => ?_, fun a h na => ?_⟩
    · simp only [RD] at h ⊢
      obtain ⟨a, vs, e, ha, q1, l, q2⟩ := h
      exact ⟨a, vs, e, fun z => ha (hR a z), q1, l, key q2⟩
    · obtain ⟨vs, e, l, q⟩ := h
      simp only [RD]
      exact ⟨a, vs, rfl, na, .inl e, l, key q⟩
  | ins hl _ ih =>
    have key : ∀ {vs : List V}, RDs H R rho _ vs → RDs H R' (rho.take n) _ vs := fun {vs} q => rds_res hl (fun i x y e1 e2 => (ih i x y e1 e2).1) q
    refine ⟨fun v h => ?_, fun a h na => ?_⟩
    · simp only [RD] at h ⊢
      obtain ⟨a, dx, vs, e, ha, q1, l, q2⟩ := h
      exact ⟨a, dx, vs, e, fun z => ha (hR a z), q1, l, key q2⟩
    · obtain ⟨dx, vs, e, l, q⟩ := h
      simp only [RD]
      exact ⟨a, dx, vs, rfl, na, e, l, key q⟩
  | xd hl _ ih =>
    have key : ∀ {vs : List V}, RDs H R rho _ vs → RDs H R' (rho.take n) _ vs := fun {vs} q => rds_res hl (fun i x y e1 e2 => (ih i x y e1 e2).1) q
    refine ⟨fun v h => ?_, fun a h na => h.elim⟩
    simp only [RD] at h ⊢
    obtain ⟨a, vs, e, ha, q1, l, q2⟩ := h
    exact ⟨a, vs, e, fun z => ha (hR a z), q1, l, key q2⟩
end
/-- out of a def whose caller's store was S0: S' is what stands at the end, S1 what the caller sees of it -/
structure Out (S0 S' S1 : Store) : Prop where
  pre : ∃ R, S' = S1 ++ R
  len : S0.length ≤ S1.length
  bel : S1 = S0 ∨ belows S1.length S1
def ExitTo (S0 : Store) (K : KE) : KE := fun d S' => ∃ S1 d', Out S0 S' S1 ∧ Res S1.length S' d d' ∧ K d' S1
def ExitX (S0 : Store) (X : KX) : Exc → Env' → Store → Prop := fun e _ S' => ∃ S1 ys, Out S0 S' S1 ∧ Res S1.length S' (.xd e.ns e.xs) (.xd e.ns ys) ∧ X ⟨e.C, e.ns, ys⟩ S1
def endsOf (S0 : Store) (K : KE) (X : KX) : DEnds := { nx := fun _ S' => ExitTo S0 K .non S', rt := ExitTo S0 K, ex := ExitX S0 X }
theorem SR.belows [Tabl] {H : Hp} {L : LL} {S : Store} {T : List (Addr × HO)} (s : SR H L S T) : DL.belows S.length S := by
  obtain ⟨rho, x⟩ := s
  have key : ∀ ds : List Dat, (∀ d ∈ ds, DL.below S.length d) → DL.belows S.length ds := fun ds => by
    induction ds with
    | nil => intro _; simp only [DL.belows]
    | cons d ds ih =>
      intro h
      simp only [DL.belows]
      exact ⟨h d List.mem_cons_self, ih fun c hc => h c (List.mem_cons_of_mem _ hc)⟩
  refine key S fun d hd => ?_
  obtain ⟨n, hn, e⟩ := List.mem_iff_getElem.mp hd
  have hr : n < rho.length := by rw [x.len]; exact hn
  have hx := x.node n rho[n] d (List.getElem?_eq_getElem hr) (by rw [List.getElem?_eq_getElem hn, e])
  rw [← x.len]
  cases d with
  | lst xs => obtain ⟨vs, _, q⟩ := hx; simp only [DL.below]; exact q.belows
  | dct ks xs => obtain ⟨vs, _, _, q⟩ := hx; simp only [DL.below]; exact q.belows
  | dtt ks xs => obtain ⟨vs, _, _, q⟩ := hx; simp only [DL.below]; exact q.belows
  | ins C ns xs => obtain ⟨dx, vs, _, _, q⟩ := hx; simp only [DL.below]; exact q.belows
  | _ => exact hx.elim
theorem Out.go [Tabl] {S0 S' S1 : Store} {H H' : Hp} {L L' : LL} {T : List (Addr × HO)} {d d' : Dat} {v : V} (o : Out S0 S' S1) (r : Res S1.length S' d d') (s0 : SR H L S0 T) (l : Lle L L') (s : SR H' L' S' T) (p : L' v d) :
    ∃ L2, Lle L L2 ∧ L2 v d' ∧ SR H' L2 S1 T := by
  obtain ⟨⟨R, rfl⟩, hl, hb⟩ := o
  have hbel : DL.belows S1.length S1 := by
    rcases hb with h | h
    · rw [h]; exact s0.belows
    · exact h
  obtain ⟨rho, x⟩ := s
  have hsub : ∀ a, a ∈ rho.take S1.length ++ T.map (·.1) → a ∈ rho ++ T.map (·.1) := fun a h => by
    rcases List.mem_append.mp h with h | h
    · exact List.mem_append_left _ (List.mem_of_mem_take h)
    · exact List.mem_append_right _ h
  have hout : ∀ (m : Nat) a, S1.length ≤ m → rho[m]? = some a → a ∉ rho.take S1.length ++ T.map (·.1) := fun m a hm ha z => by
    have nd := List.nodup_append.mp x.nd
    rcases List.mem_append.mp z with h | h
    · obtain ⟨i, hi, e⟩ := List.mem_iff_getElem.mp h
      have hi2 : i < S1.length := by have := hi; rw [List.length_take] at this; omega
      have e2 : rho[i]? = some a := by
        have : (rho.take S1.length)[i]? = some a := by rw [List.getElem?_eq_getElem hi, e]
        rw [List.getElem?_take, if_pos hi2] at this
        exact this
      have := (List.getElem?_inj (List.getElem?_eq_some_iff.mp ha).1 nd.1).mp (ha.trans e2.symm)
      omega
    · exact nd.2.2 a (List.mem_of_getElem? ha) a h rfl
  have key := Res.rd (R' := rho.take S1.length ++ T.map (·.1)) (T := T) x.node hsub hout x.len r
  exact ⟨Ladd L v d', Ladd.le, Ladd.here, _, x.cutAt hbel (fun w c h => by
    rcases h with h | ⟨rfl, rfl⟩
    · exact RD.trim hsub (x.rd w c (l w c h)) ((s0.below h).mono hl)
    · exact key.1 _ (x.rd _ _ p)) fun w c h => (s0.ownB w c h).mono hl⟩
/-- the slots at a def's entry -/
def startD (N : List Str) (ds : List Dat) : Env' := ds.map some ++ List.replicate (N.length - ds.length) none
theorem envIn_start {N : List Str} {vs : List V} {ds : List Dat} {L : LL} (h : Ls L vs ds) : EnvIn (L2.start N vs) (startD N ds) L := by
  refine ⟨by simp [L2.start, startD, h.length], fun i d e => ?_⟩
  unfold startD at e
  by_cases hi : i < ds.length
  · rw [List.getElem?_append_left (by simpa using hi), List.getElem?_map] at e
    cases q : ds[i]? with
    | none => rw [q] at e; cases e
    | some c =>
      rw [q] at e
      injection e with e
      injection e with e
      subst e
      obtain ⟨v, h1, h2⟩ := h.get q
      refine ⟨v, ?_, h2⟩
      unfold L2.start
      rw [List.getElem?_append_left (by simpa [h.length] using hi), List.getElem?_map, h1]
      rfl
  · rw [List.getElem?_append_right (by simpa using Nat.le_of_not_lt hi)] at e
    rw [List.getElem?_replicate] at e
    split at e <;> cases e
section
variable {P : Program} {w : World} {K : PySem.W.Frag} {mg : Str → Option Value} {base : Heap} {x qual : Str} {params : Arguments} {body : List Stmt} {scope : Scope} {dvs : List V} {kws : List (Str × V)} {f : Addr} {fd : FuncData} {N ps : List Str} {k : Nat}
abbrev WE0 (E : XK) : WX := fun cls d _ H => E cls d H
/-- A DEF KEEPS ITS PROMISE: its body's reading u, from the promise G -/
theorem fnD [Tabl] {G : Spec} {u : US} (F : FunD K x qual params body scope dvs kws f fd) (Sc : FnScope N ps scope) (len : ∀ ds S K X, G ds S K X → ds.length = ps.length)
    (hb : ∀ (cdv : Value) (A : Around) (outer : List Env) (s : Shared) (H : Hp) (E : XK), Room k (A.deeper (envOfC qual scope s.heap.objs.size f cdv)) →
      Takes (cxOf (L2.CX P w) P w K mg base N qual scope f cdv A outer s H E) (WE0 E) → ∃ t, DSs (cxOf (L2.CX P w) P w K mg base N qual scope f cdv A outer s H E) (WE0 E) body t u)
    (hu : ∀ ds S K X, G ds S K X → belows S.length ds → belows S.length S → u (endsOf S K X) (startD N ds) S) : FnOk P w K mg base (L2.CX P w) (k + 1) f fd ps (spOf G) := by
  refine F.ok Sc (fun vs H Q E h => ?_) (fun cdv A outer s H vs Q E hr h => ?_)
  · obtain ⟨ds, L, S, T, K', X, p, _, g, _⟩ := h
    rw [p.length]
    exact len ds S K' X g
  · have tk : Takes (cxOf (L2.CX P w) P w K mg base N qual scope f cdv A outer s H E) (WE0 E) := takes_of rfl rfl rfl rfl
    obtain ⟨t, ht⟩ := hb cdv A outer s H E hr tk
    refine ⟨t, ht.run, ?_⟩
    obtain ⟨ds, L, S, T, K', X, p, hs, g, hq, hx⟩ := h
    have hbd : belows S.length ds := by
      have : ∀ {vs : List V} {ds : List Dat}, Ls L vs ds → belows S.length ds := fun {vs ds} q => by
        induction ds generalizing vs with
        | nil => simp only [belows]
        | cons d ds ih =>
          match vs, q with
          | v :: vs, q => simp only [belows]; exact ⟨hs.below q.1, ih q.2⟩
          | [], q => exact q.elim
      exact this p
    refine ht.imp (envIn_start p) hs (hu ds S K' X g hbd hs.belows) ⟨fun sg dl L' H' S' l hl he hs' hk => ?_, fun v d L' H' S' l hp hs' hk => ?_, fun sg dl L' H' S' l hl he hs' hk => hk.elim, fun sg dl L' H' S' l hl he hs' hk => hk.elim, fun e dd sg dl L' H' S' l hl he hp hs' hk => ?_⟩
    · obtain ⟨S1, d', o, r, hk⟩ := hk
      obtain ⟨L2, l2, p2, s2⟩ := o.go r hs (l.trans Ladd.le) (hs'.flat (d := .non) (v := .non) rfl) Ladd.here
      exact hq .non d' L2 H' S1 l2 p2 s2 hk
    · obtain ⟨S1, d', o, r, hk⟩ := hk
      obtain ⟨L2, l2, p2, s2⟩ := o.go r hs l hs' hp
      exact hq v d' L2 H' S1 l2 p2 s2 hk
    · obtain ⟨S1, ys, o, r, hk⟩ := hk
      obtain ⟨L2, l2, p2, s2⟩ := o.go r hs l hs' hp
      exact hx ⟨e.C, e.ns, ys⟩ dd L2 H' S1 l2 p2 s2 hk
end
/-! ### several targets -/
abbrev UGs := List Dat → Env' → Store → (Env' → Store → Prop) → KX → Prop
def ImpGs [Tabl] (W : WX) (t : TGs) (u : UGs) (ts : List Nat) : Prop := ∀ {sg dl L H S T vs ds K X Q}, EnvIn sg dl L → SR H L S T → Ls L vs ds → u ds dl S K X → GOk sg ts L T K Q → (∀ sg', sg'.length = sg.length → XOk W sg' L T X) → t vs sg H Q
structure DGs [Tabl] (X : Cx) (W : WX) (es : List Expr) (t : TGs) (u : UGs) (ts : List Nat) : Prop where
  run : PGs X es t
  imp : ImpGs W t u ts
def uGNil : UGs := fun ds dl S K _ => match ds with
  | [] => K dl S
  | _ => False
def uGCons (a : UG) (b : UGs) : UGs := fun ds dl S K X => match ds with
  | d :: r => a d dl S (fun dl2 S2 => b r dl2 S2 K X) X
  | [] => False
def uGTup (n : Nat) (b : UGs) : UG := fun d dl S K X => match d with
  | .tup xs => xs.length = n ∧ b xs dl S K (fun _ _ => False)
  | _ => False
section
variable {X : Cx} {W : WX} {e : Expr} {es : List Expr} {t : TG} {tr : TGs} {u : UG} {ur : UGs} {ts rs : List Nat} {pos : Pos}
theorem dgs_nil [Tabl] : DGs X W [] gNil uGNil [] := ⟨pgs_nil, fun {sg dl L H S T vs ds K X Q} he hs p h hk _ => by
  match vs, ds, p, h with
  | [], [], _, h => exact ⟨rfl, hk sg dl L H S (.refl L) rfl (fun _ _ => rfl) he hs h⟩
  | _, _ :: _, _, h => exact h.elim
  | _ :: _, [], p, _ => exact p.elim⟩
theorem dgs_cons [Tabl] (h1 : DG X W e t u ts) (h2 : DGs X W es tr ur rs) (hs : (assignEach (e :: es) X.env).map (·.2) = assign e X.env :: (assignEach es X.env).map (·.2) := by rfl) : DGs X W (e :: es) (gCons t tr) (uGCons u ur) (ts ++ rs) :=
  ⟨pgs_cons h1.run h2.run hs, fun {sg dl L H S T vs ds K X Q} he hs p h hk hx => by
    match vs, ds, p, h with
    | v :: vs, d :: ds, p, h =>
      refine ⟨v, vs, rfl, h1.imp he hs p.1 h (fun sg2 dl2 L2 H2 S2 l2 hl2 hw2 he2 hs2 h2' => ?_) (hx sg rfl)⟩
      refine h2.imp he2 hs2 (p.2.le l2) h2' (fun sg3 dl3 L3 H3 S3 l3 hl3 hw3 he3 hs3 h3 => ?_) fun sg' hl' => (hx sg' (hl'.trans hl2)).le l2
      exact hk sg3 dl3 L3 H3 S3 (l2.trans l3) (hl3.trans hl2) (fun vs hv => (hw3 vs fun i hi => hv i (List.mem_append_right _ hi)).trans (hw2 vs fun i hi => hv i (List.mem_append_left _ hi))) he3 hs3 h3
    | _, [], _, h => exact h.elim
    | [], _ :: _, p, _ => exact p.elim⟩
theorem dg_tup [Tabl] {k n : Nat} (hc : X.calm = true) (h : DGs X W es tr ur ts) (hn : (assignEach es X.env).length = n := by rfl) (hst : (assignEach es X.env).findIdx? (·.1) = none := by rfl) : DG X W (.Tuple es k pos) (gTup X.K n tr) (uGTup n ur) ts :=
  ⟨pg_tup hc h.run hn hst, fun {sg dl L H S T v d K X' Q} he hs p hu hk hx => by
    cases d with
    | tup xs =>
      obtain ⟨a, vs, e, r, s1, q⟩ := hs.tuple p
      refine ⟨a, vs, e, .of r, by rw [q.length]; exact hu.1, h.imp (he.le LaddL.le) s1 q hu.2 (fun sg2 dl2 L2 H2 S2 l2 => hk sg2 dl2 L2 H2 S2 (LaddL.le.trans l2)) fun sg' _ e dd L' H' S' _ _ _ z => z.elim⟩
    | _ => exact hu.elim⟩
end
/-! ### comprehensions -/
theorem wipe_len (sg : L2.St) : ∀ vs : List Nat, (wipe sg vs).length = sg.length
  | [] => rfl
  | v :: vs => by
    show ((wipe sg vs).set v none).length = sg.length
    rw [List.length_set, wipe_len sg vs]
theorem wipe_at {sg : L2.St} {n : Nat} : ∀ {zs : List Nat}, n ∈ zs → n < sg.length → (wipe sg zs)[n]? = some none
  | z :: zs, hz, hl => by
    show ((wipe sg zs).set z none)[n]? = some none
    by_cases hzn : z = n
    · subst hzn
      rw [List.getElem?_set_self (by rw [wipe_len]; exact hl)]
    · rw [List.getElem?_set_ne hzn]
      rcases List.mem_cons.mp hz with q | q
      · exact absurd q.symm hzn
      · exact wipe_at q hl
theorem wipe_wipe {sg : L2.St} {vs : List Nat} : ∀ us : List Nat, (∀ i ∈ us, i ∈ vs) → wipe (wipe sg vs) us = wipe sg vs
  | [], _ => rfl
  | j :: us, hj => by
    show (wipe (wipe sg vs) us).set j none = wipe sg vs
    rw [wipe_wipe us fun i hi => hj i (List.mem_cons_of_mem _ hi)]
    refine List.ext_getElem? fun n => ?_
    by_cases hn : n = j
    · subst hn
      by_cases hlen : n < sg.length
      · rw [List.getElem?_set_self (by rw [wipe_len]; exact hlen), wipe_at (hj n List.mem_cons_self) hlen]
      · rw [List.getElem?_eq_none_iff.mpr (by rw [List.length_set, wipe_len]; omega), List.getElem?_eq_none_iff.mpr (by rw [wipe_len]; omega)]
    · rw [List.getElem?_set_ne (Ne.symm hn)]
def wipeD (dl : Env') : List Nat → Env'
  | [] => dl
  | v :: vs => (wipeD dl vs).set v none
theorem EnvIn.unset {sg : L2.St} {dl : Env'} {L : LL} (he : EnvIn sg dl L) (i : Nat) : EnvIn (sg.set i none) (dl.set i none) L := by
  refine ⟨by rw [List.length_set, List.length_set]; exact he.1, fun k c hk => ?_⟩
  by_cases e : k = i
  · subst e
    by_cases hi : k < dl.length
    · rw [List.getElem?_set_self hi] at hk
      cases hk
    · rw [List.getElem?_eq_none_iff.mpr (by rw [List.length_set]; omega)] at hk
      cases hk
  · rw [List.getElem?_set_ne (Ne.symm e)] at hk
    obtain ⟨w, h1, h2⟩ := he.2 k c hk
    exact ⟨w, by rw [List.getElem?_set_ne (Ne.symm e)]; exact h1, h2⟩
theorem EnvIn.wipe {sg : L2.St} {dl : Env'} {L : LL} (he : EnvIn sg dl L) : ∀ vs : List Nat, EnvIn (L2.wipe sg vs) (wipeD dl vs) L
  | [] => he
  | v :: vs => (EnvIn.wipe he vs).unset v
abbrev WF0 : WX := fun _ _ _ _ => False
abbrev XF0 : KX := fun _ _ => False
structure DTs [Tabl] (X : Cx) (W : WX) (es : List Expr) (t : TT) (u : UT) : Prop where
  run : PTs X es t
  imp : ImpT W t u
def uYes : UT := fun _ S K _ => K true S
theorem dts_nil [Tabl] {X : Cx} {W : WX} : DTs X W [] tYes uYes := ⟨pts_nil, fun {sg dl L H S T K X Q} he hs h hq _ => hq true L H S (.refl L) hs h⟩
theorem dts_one [Tabl] {X : Cx} {W : WX} {c : Expr} {t : TT} {u : UT} (h : DT X W c t u) : DTs X W [c] t u := ⟨pts_one h.run, h.imp⟩
/-- the comprehension: I speaks of the turn, of what is made, of the store -/
def uLcW (i : UI) (own : List Nat) (g : UG) (tt : UT) (ue : UE) (fin : List Dat → Store → KE → Prop) : UE := fun dl S K X => i dl S (fun ds P S1 => ∃ I : Nat → List Dat → Store → Prop, I 0 [] S1 ∧
  (∀ (j : Nat) d acc S2, ds[j]? = some d → I j acc S2 → P S2 ∧ acc.length < sizeLine ∧ g d (wipeD dl own) S2 (fun dl2 S3 => tt dl2 S3 (fun b S4 => if b = true then ue dl2 S4 (fun y S5 => I (j + 1) (acc ++ [y]) S5) XF0 else I (j + 1) acc S4) XF0) XF0) ∧
  ∀ acc S2, I ds.length acc S2 → P S2 ∧ fin acc S2 K) X
def uLc (i : UI) (own : List Nat) (g : UG) (tt : UT) (ue : UE) : UE := uLcW i own g tt ue fun acc S K => K (.lst acc) S
def uLcC (i : UI) (own : List Nat) (g : UG) (tt : UT) (ue : UE) : UE := uLcW i own g tt ue fun acc S K => K (.cell S.length) (S ++ [.lst acc])
section
variable {H : Hp} {L : LL} {S : Store} {T : List (Addr × HO)}
theorem ntb_cons [Tabl] {D : Addr} {o : HO} {T : List (Addr × HO)} (h : (∀ ps, o ≠ .tbl ps) ∧ ∀ Q, o ≠ .ext Q) (k : ∀ p ∈ T, PinOk p) : ∀ p ∈ (D, o) :: T, PinOk p := fun p hp => by
  rcases List.mem_cons.mp hp with e | e
  · subst e; exact .of h
  · exact k p e
theorem SRx.pinSet [Tabl] {rho : List Addr} {D : Addr} {o o' : HO} (s : SRx H L S ((D, o) :: T) rho) (n0 : (∀ ps, o' ≠ .tbl ps) ∧ ∀ Q, o' ≠ .ext Q := by (constructor <;> (intro _ z; cases z))) (n1 : ∀ ps, o ≠ .tbl ps := by (intro _ z; cases z)) (n2 : ∀ P, o ≠ .ext P := by (intro _ z; cases z)) : SRx (upd H D o') L S ((D, o') :: T) rho := by
  have hin : D ∈ rho ++ ((D, o) :: T).map (·.1) := by simp
  have nd := s.nd
  have hne : ∀ n a, rho[n]? = some a → a ≠ D := fun n a h z => by
    have q := (List.nodup_append.mp nd).2.2 a (List.mem_of_getElem? h) D (by simp)
    exact q z
  have md : Mild H (upd H D o') := .at (s.pin (D, o) List.mem_cons_self) n1 n2
  have m : Mono H (upd H D o') (rho ++ ((D, o) :: T).map (·.1)) (rho ++ ((D, o') :: T).map (·.1)) rho rho :=
    ⟨fun a u h e _ _ => by rw [upd_ne fun z => h (by rw [z]; exact hin)]; exact e, fun a h => .inl h, fun _ _ h => h, fun _ _ _ => FnAt.mono md.ext⟩
  refine ⟨s.len, s.nd, fun n a d h1 h2 => (s.node n a d h1 h2).mono m (by rw [upd_ne (hne n a h1)]), fun p hp => ?_, fun v d h => RD.mono m (s.rd v d h), md.tabs s.tab, fun q o e => md.ext _ _ (s.cel q o e), fun v d h => RD.mono m (s.own v d h), fun p hp => ntb_cons n0 (fun q hq => s.ntb q (List.mem_cons_of_mem _ hq)) p hp⟩
  rcases List.mem_cons.mp hp with e | e
  · subst e; exact upd_same
  · have hp' := s.pin p (List.mem_cons_of_mem _ e)
    have : p.1 ≠ D := fun z => by
      have q := (List.nodup_append.mp nd).2.1
      simp only [List.map_cons, List.nodup_cons] at q
      exact q.1 (List.mem_map.mpr ⟨p, e, z⟩)
    rw [upd_ne this]; exact hp'
/-- a new object is pinned -/
theorem SR.pinNew [Tabl] (s : SR H L S T) {D : Addr} {o : HO} (hD : H D = none) (n0 : (∀ ps, o ≠ .tbl ps) ∧ ∀ Q, o ≠ .ext Q := by (constructor <;> (intro _ z; cases z))) : SR (upd H D o) L S ((D, o) :: T) := by
  obtain ⟨rho, x⟩ := s
  have nf := x.fresh hD
  have m : Mono H (upd H D o) (rho ++ T.map (·.1)) (rho ++ ((D, o) :: T).map (·.1)) rho rho :=
    ⟨fun a u _ e _ _ => by rw [upd_ne (ne_of_none e hD)]; exact e, fun a h => by
      simp only [List.map_cons, List.mem_append, List.mem_cons] at h ⊢
      rcases h with h | h | h
      · exact .inl (.inl h)
      · subst h; exact .inr hD
      · exact .inl (.inr h), fun _ _ h => h, fun _ _ _ => FnAt.mono (Mild.new hD).ext⟩
  refine ⟨rho, x.len, ?_, fun n a d h1 h2 => ?_, fun p hp => ?_, fun v d h => RD.mono m (x.rd v d h), (Mild.new hD).tabs x.tab, fun q o e => (Mild.new hD).ext _ _ (x.cel q o e), fun v d h => RD.mono m (x.own v d h), ntb_cons n0 x.ntb⟩
  · have : (rho ++ ((D, o) :: T).map (·.1)).Perm (D :: (rho ++ T.map (·.1))) := List.perm_middle
    exact this.nodup_iff.mpr (List.nodup_cons.mpr ⟨nf, x.nd⟩)
  · have hx := x.node n a d h1 h2
    obtain ⟨u, hu⟩ := hx.some
    exact hx.mono m (by rw [upd_ne (ne_of_none hu hD)])
  · rcases List.mem_cons.mp hp with e | e
    · subst e; exact upd_same
    · have hp' := x.pin p e
      rw [upd_ne (ne_of_none hp' hD)]; exact hp'
theorem pin_mono {rho : List Addr} {D : Addr} {o : HO} : Mono H H (rho ++ ((D, o) :: T).map (·.1)) (rho ++ T.map (·.1)) rho rho :=
  ⟨fun _ _ _ e _ _ => e, fun a h => .inl (by
    simp only [List.map_cons, List.mem_append, List.mem_cons] at h ⊢
    rcases h with h | h
    · exact .inl h
    · exact .inr (.inr h)), fun _ _ h => h, fun _ _ _ h => h⟩
theorem SRx.unpin [Tabl] {rho : List Addr} {D : Addr} {o : HO} (s : SRx H L S ((D, o) :: T) rho) : SRx H L S T rho ∧ D ∉ rho ++ T.map (·.1) ∧ H D = some o := by
  have hp : (rho ++ ((D, o) :: T).map (·.1)).Perm (D :: (rho ++ T.map (·.1))) := List.perm_middle
  have nd := List.nodup_cons.mp (hp.nodup_iff.mp s.nd)
  refine ⟨⟨s.len, nd.2, fun n a d h1 h2 => (s.node n a d h1 h2).mono pin_mono rfl, fun p hp => s.pin p (List.mem_cons_of_mem _ hp), fun v d h => RD.mono pin_mono (s.rd v d h), s.tab, s.cel, fun v d h => RD.mono pin_mono (s.own v d h), fun p hp => s.ntb p (List.mem_cons_of_mem _ hp)⟩, nd.1, s.pin (D, o) List.mem_cons_self⟩
theorem SR.unpin [Tabl] {D : Addr} {o : HO} (s : SR H L S ((D, o) :: T)) : SR H L S T := let ⟨rho, x⟩ := s; ⟨rho, x.unpin.1⟩
/-- the pinned list becomes a tree -/
theorem SR.pinTree [Tabl] {D : Addr} {vs : List V} {ds : List Dat} (s : SR H L S ((D, .lst vs) :: T)) (p : Ls L vs ds) : SR H (Ladd L (.ref D) (.lst ds)) S T := by
  obtain ⟨rho, x⟩ := s
  obtain ⟨y, nD, hD⟩ := x.unpin
  refine ⟨rho, y.more fun v d q => ?_⟩
  rcases q with q | ⟨rfl, rfl⟩
  · exact .inl q
  · refine .inr ?_
    simp only [RD]
    exact ⟨D, vs, rfl, nD, hD, Ls.rds y.rd p⟩
theorem Ls.snoc {vs : List V} {ds : List Dat} {v : V} {d : Dat} (h : Ls L vs ds) (p : L v d) : Ls L (vs ++ [v]) (ds ++ [d]) := h.append ⟨p, True.intro⟩
end
section
variable {X : Cx} {W : WX} {elt tg iter : Expr} {ifs : List Expr} {scope : Scope} {own : List (Str × Nat)} {pos : Pos} {wi : TI} {ui : UI} {g : TG} {ug : UG} {ts : List Nat} {tt : TT} {ut : UT} {te : TE} {ue : UE}
theorem imp_lc [Tabl] {fin : List Dat → Store → KE → Prop} {vs : List Nat} (hfin : ∀ {H L S T D} {accV : List V} {acc : List Dat} {K Q}, SR H L S ((D, .lst accV) :: T) → Ls L accV acc → fin acc S K → EOk L T K Q → Q (.ref D) H)
    (hi : ImpI W wi ui) (hg : ImpG WF0 g ug ts) (ht : ImpT WF0 tt ut) (he : ImpE WF0 te ue) (hts : ∀ i ∈ ts, i ∈ vs) : ImpE W (tLc wi g tt te vs) (uLcW ui vs ug ut ue fin) := fun {sg dl L H S T K X' Q} hE hs h hq hx => by
  refine hi hE hs h (fun J ds P L1 H1 S1 l1 s1 hJ h1 D hD => ?_) hx
  obtain ⟨I, h0, hI, hd⟩ := h1
  refine ⟨fun i m H2 => m = ds.length - i ∧ i ≤ ds.length ∧ ∃ L2 S2 accV acc, Lle L1 L2 ∧ Ls L2 accV acc ∧ SR H2 L2 S2 ((D, .lst accV) :: T) ∧ I i acc S2, ⟨_, rfl, Nat.zero_le _, L1, S1, [], [], .refl _, True.intro, s1.pinNew hD, h0⟩, ?_⟩
  rintro i m H2 ⟨rfl, hi2, L2, S2, accV, acc, l2, p2, s2, h2⟩
  by_cases hlt : i < ds.length
  · obtain ⟨hP, hsz, hb2⟩ := hI i ds[i] acc S2 (List.getElem?_eq_getElem hlt) h2
    refine .inr ⟨hJ.go i H2 L2 S2 _ l2 s2 hP hlt, fun H' => ∃ m', m' < ds.length - i ∧ m' = ds.length - (i + 1) ∧ i + 1 ≤ ds.length ∧ ∃ L2 S2 accV acc, Lle L1 L2 ∧ Ls L2 accV acc ∧ SR H' L2 S2 ((D, .lst accV) :: T) ∧ I (i + 1) acc S2, fun H' h => h, fun x H' hy => ?_⟩
    obtain ⟨L3, l3, p3, s3⟩ := hJ.yld i H2 L2 S2 _ x H' ds[i] l2 s2 hP (List.getElem?_eq_getElem hlt) hy
    have hE3 : EnvIn (wipe sg vs) (wipeD dl vs) L3 := (hE.le ((l1.trans l2).trans l3)).wipe vs
    refine hg hE3 s3 p3 hb2 (fun sg4 dl4 L4 H4 S4 l4 hl4 hw4 he4 s4 h4 => ⟨?_, ?_⟩) fun e dd L' H' S' _ _ _ z => z.elim
    · rw [hw4 vs hts]
      exact wipe_wipe vs fun i h => h
    · refine ht he4 s4 h4 (fun b L5 H5 S5 l5 s5 h5 => ?_) fun e dd L' H' S' _ _ _ z => z.elim
      cases b with
      | true =>
        show te sg4 H5 _
        refine he (he4.le l5) s5 h5 (fun v d L6 H6 S6 l6 p6 s6 h6 => ?_) fun e dd L' H' S' _ _ _ z => z.elim
        obtain ⟨rho, x6⟩ := id s6
        have l36 := ((l3.trans l4).trans l5).trans l6
        refine ⟨accV, x6.pin (D, .lst accV) List.mem_cons_self, by rw [p2.length]; exact hsz, _, by omega, rfl, hlt, L6, S6, accV ++ [v], acc ++ [d], l2.trans l36, (p2.le l36).snoc p6, ⟨rho, x6.pinSet⟩, h6⟩
      | false =>
        have l35 := (l3.trans l4).trans l5
        exact ⟨_, by omega, rfl, hlt, L5, S5, accV, acc, l2.trans l35, p2.le l35, s5, h5⟩
  · have e : i = ds.length := by omega
    subst e
    obtain ⟨hP, hn⟩ := hd acc S2 h2
    exact .inl ⟨hJ.stop _ H2 L2 S2 _ l2 s2 hP rfl, hfin s2 p2 hn (hq.le (l1.trans l2))⟩
theorem de_lc [Tabl] (hc : X.calm = true) (hN : X.N.Nodup) (hi : DI X W tg iter wi ui) (ok : BlkOk X.N X.env.scope scope own)
    (hg : ∀ (s : Shared) (H : Hp) (C : Addr) (cl : List (Str × Addr)) (fp : List Addr), DG (X.blk s H scope (compEnvC scope cl C X.env) fp) WF0 tg g ug ts) (ht : ∀ (s : Shared) (H : Hp) (C : Addr) (cl : List (Str × Addr)) (fp : List Addr), DTs (X.blk s H scope (compEnvC scope cl C X.env) fp) WF0 ifs tt ut)
    (he : ∀ (s : Shared) (H : Hp) (C : Addr) (cl : List (Str × Addr)) (fp : List Addr), DE (X.blk s H scope (compEnvC scope cl C X.env) fp) WF0 elt te ue) (hts : ∀ i ∈ ts, i ∈ own.map (·.2)) (hs : ∀ x, foldedSetIterable iter X.env x = pure x := by intro _; rfl) :
    DE X W (.ListComp elt [⟨tg, iter, ifs, 0⟩] scope pos) (tLc wi g tt te (own.map (·.2))) (uLc ui (own.map (·.2)) ug ut ue) :=
  ⟨pe_lc hc hN hi.run ok (fun s H C cl fp => (hg s H C cl fp).run) (fun s H C cl fp => (ht s H C cl fp).run) (fun s H C cl fp => (he s H C cl fp).run) hs,
    imp_lc (fun {H L S T D accV acc K Q} s p h hq => hq _ _ _ _ S Ladd.le Ladd.here (s.pinTree p) h) hi.imp (hg {} (fun _ => none) 0 [] []).imp (ht {} (fun _ => none) 0 [] []).imp (he {} (fun _ => none) 0 [] []).imp hts⟩
/-- name = [..] on one line -/
theorem fin_tree [Tabl] {H : Hp} {L : LL} {S : Store} {T : List (Addr × HO)} {D : Addr} {accV : List V} {acc : List Dat} {K : KE} {Q : VK} (s : SR H L S ((D, .lst accV) :: T)) (p : Ls L accV acc) (h : K (.lst acc) S) (hq : EOk L T K Q) : Q (.ref D) H := hq _ _ _ _ S Ladd.le Ladd.here (s.pinTree p) h
theorem imp_set [Tabl] {i : Nat} (h : ImpE W te ue) : ImpS W (tAsg te (gName i)) (uSet i ue) := fun {sg dl L H S T D D'} he hs h' hk =>
  h he hs h' (fun v d L1 H1 S1 l1 p1 s1 h1 => hk.nx (sg.set i (some v)) (dl.set i (some d)) L1 H1 S1 l1 (List.length_set ..) ((he.le l1).set h1.1 p1) s1 h1.2) (hk.ex.x rfl he)
theorem ds_setLc [Tabl] {i : Nat} {y : Str} {py spos : Pos} (hc : X.calm = true) (hN : X.N.Nodup) (hi : DI X W tg iter wi ui) (ok : BlkOk X.N X.env.scope scope own)
    (hg : ∀ (s : Shared) (H : Hp) (C : Addr) (cl : List (Str × Addr)) (fp : List Addr), DG (X.blk s H scope (compEnvC scope cl C X.env) fp) WF0 tg g ug ts) (ht : ∀ (s : Shared) (H : Hp) (C : Addr) (cl : List (Str × Addr)) (fp : List Addr), DTs (X.blk s H scope (compEnvC scope cl C X.env) fp) WF0 ifs tt ut)
    (he : ∀ (s : Shared) (H : Hp) (C : Addr) (cl : List (Str × Addr)) (fp : List Addr), DE (X.blk s H scope (compEnvC scope cl C X.env) fp) WF0 elt te ue) (hts : ∀ i ∈ ts, i ∈ own.map (·.2))
    (hy : X.N[i]? = some y := by rfl) (hyl : X.env.scope.names.lookup y = some .local := by rfl)
    (hsw : swapsWith (.ListComp elt [⟨tg, iter, ifs, 0⟩] scope pos) (some (.Name y py)) spos.line X.env = pure true := by exact sw_true rfl rfl rfl (by decide +kernel)) (hs : ∀ x, foldedSetIterable iter X.env x = pure x := by intro _; rfl) :
    DS X W (.Assign [.Name y py] (.ListComp elt [⟨tg, iter, ifs, 0⟩] scope pos) spos) (tAsg (tLc wi g tt te (own.map (·.2))) (gName i)) (uSet i (uLc ui (own.map (·.2)) ug ut ue)) :=
  ⟨ps_setLc hc hN hy hyl hsw hi.run ok (fun s H C cl fp => (hg s H C cl fp).run) (fun s H C cl fp => (ht s H C cl fp).run) (fun s H C cl fp => (he s H C cl fp).run) hs,
    imp_set (imp_lc fin_tree hi.imp (hg {} (fun _ => none) 0 [] []).imp (ht {} (fun _ => none) 0 [] []).imp (he {} (fun _ => none) 0 [] []).imp hts)⟩
end
end DL
/-! DL5: operators, subscripts, slices, built-ins, methods over data. -/
namespace DL
open PySem L2
section
variable {H : Hp} {L : LL} {S : Store} {T : List (Addr × HO)} {v : V}
theorem SR.vint [Tabl] (s : SR H L S T) {i : Int} (h : L v (.int i)) : v = .int i := by obtain ⟨_, x⟩ := s; have := x.rd _ _ h; simp only [RD] at this; exact this
theorem SR.vstr [Tabl] (s : SR H L S T) {i : Str} (h : L v (.str i)) : v = .str i := by obtain ⟨_, x⟩ := s; have := x.rd _ _ h; simp only [RD] at this; exact this
theorem SR.vbl [Tabl] (s : SR H L S T) {i : Bool} (h : L v (.bl i)) : v = .bl i := by obtain ⟨_, x⟩ := s; have := x.rd _ _ h; simp only [RD] at this; exact this
theorem SR.vnon [Tabl] (s : SR H L S T) (h : L v .non) : v = .non := by obtain ⟨_, x⟩ := s; have := x.rd _ _ h; simp only [RD] at this; exact this
theorem EOk.flat [Tabl] {K : KE} {Q : VK} (hq : EOk L T K Q) (s : SR H L S T) {d : Dat} (hf : Flat d v) (h : K d S) : Q v H := hq v d (Ladd L v d) H S Ladd.le Ladd.here (s.flat hf) h
/-- flat data as values -/
def flat? : Dat → Option V
  | .non => some .non | .bl b => some (.bl b) | .int i => some (.int i) | .str x => some (.str x)
  | _ => none
theorem SR.vflat [Tabl] (s : SR H L S T) {d : Dat} {w : V} (hf : flat? d = some w) (h : L v d) : v = w := by
  cases d with
  | non => simp [flat?] at hf; subst hf; exact s.vnon h
  | bl b => simp [flat?] at hf; subst hf; exact s.vbl h
  | int b => simp [flat?] at hf; subst hf; exact s.vint h
  | str b => simp [flat?] at hf; subst hf; exact s.vstr h
  | _ => simp [flat?] at hf
def flats? (ds : List Dat) : Option (List V) := ds.mapM flat?
theorem Ls.flats [Tabl] (s : SR H L S T) : ∀ {vs ws : List V} {ds : List Dat}, ds.mapM flat? = some ws → Ls L vs ds → vs = ws
  | [], ws, [], h, _ => by simp at h; exact h.symm
  | v :: vs, ws, d :: ds, h, p => by
    rw [List.mapM_cons] at h
    cases e1 : flat? d with
    | none => rw [e1] at h; cases h
    | some w =>
      cases e2 : ds.mapM flat? with
      | none => rw [e1, e2] at h; cases h
      | some us =>
        rw [e1, e2] at h
        injection h with h
        subst h
        rw [s.vflat e1 p.1, Ls.flats s e2 p.2]
  | [], _, _ :: _, _, p => p.elim
  | _ :: _, _, [], _, p => p.elim
theorem mapM_ints (ns : List Int) : (ns.map Dat.int).mapM flat? = some (ns.map V.int) := by
  induction ns with
  | nil => rfl
  | cons n ns ih => rw [List.map_cons, List.mapM_cons, ih]; rfl
theorem mapM_strs (ns : List Str) : (ns.map Dat.str).mapM flat? = some (ns.map V.str) := by
  induction ns with
  | nil => rfl
  | cons n ns ih => rw [List.map_cons, List.mapM_cons, ih]; rfl
theorem mapM_bls (ns : List Bool) : (ns.map Dat.bl).mapM flat? = some (ns.map V.bl) := by
  induction ns with
  | nil => rfl
  | cons n ns ih => rw [List.map_cons, List.mapM_cons, ih]; rfl
theorem Ls.ints [Tabl] (s : SR H L S T) {vs : List V} {ns : List Int} (h : Ls L vs (ns.map Dat.int)) : vs = ns.map V.int := h.flats s (mapM_ints ns)
theorem Ls.strs [Tabl] (s : SR H L S T) {vs : List V} {ns : List Str} (h : Ls L vs (ns.map Dat.str)) : vs = ns.map V.str := h.flats s (mapM_strs ns)
theorem Ls.bls [Tabl] (s : SR H L S T) {vs : List V} {ns : List Bool} (h : Ls L vs (ns.map Dat.bl)) : vs = ns.map V.bl := h.flats s (mapM_bls ns)
theorem Ls.one {L : LL} {vs : List V} {d : Dat} (h : Ls L vs [d]) : ∃ v, vs = [v] ∧ L v d := by
  match vs, h with
  | [v], h => exact ⟨v, rfl, h.1⟩
  | [], h => exact h.elim
  | _ :: _ :: _, h => exact h.2.elim
theorem Ls.two {L : LL} {vs : List V} {d e : Dat} (h : Ls L vs [d, e]) : ∃ v w, vs = [v, w] ∧ L v d ∧ L w e := by
  match vs, h with
  | [v, w], h => exact ⟨v, w, rfl, h.1, h.2.1⟩
  | [], h => exact h.elim
  | [_], h => exact h.2.elim
  | _ :: _ :: _ :: _, h => exact h.2.2.elim
theorem Ls.nil {L : LL} {vs : List V} (h : Ls L vs []) : vs = [] := by
  match vs, h with
  | [], _ => rfl
  | _ :: _, h => exact h.elim
end
/-! ### arithmetic -/
def rAddG (K : PySem.W.Frag) : R2 := fun x y H Q => rI0 (fun i j => .int (i + j)) x y H Q ∨ (∃ i j, x = .str i ∧ y = .str j ∧ i.length + j.length ≤ sizeLine ∧ Q (.str (i ++ j)) H) ∨ rCat x y H Q ∨ rCatA K x y H Q
def gAdd : G2 := fun x y S K => match x, y with
  | .int i, .int j => K (.int (i + j)) S
  | .str a, .str b => a.length + b.length ≤ sizeLine ∧ K (.str (a ++ b)) S
  | .tup xs, .tup ys => xs.length + ys.length ≤ sizeLine ∧ K (.tup (xs ++ ys)) S
  | x, y => match view S x, view S y with
    | some (.lst xs), some (.lst ys) => xs.length + ys.length ≤ sizeLine ∧ K (.lst (xs ++ ys)) S
    | _, _ => False
theorem cat_imp [Tabl] {x y : V} {dx dy : Dat} {L : LL} {H : Hp} {S : Store} {T : List (Addr × HO)} {K : KE} {Q : VK} {xs ys : List Dat} (hs : SR H L S T) (px : L x dx) (py : L y dy) (e1 : view S dx = some (.lst xs)) (e2 : view S dy = some (.lst ys))
    (hl : xs.length + ys.length ≤ sizeLine) (h : K (.lst (xs ++ ys)) S) (hq : EOk L T K Q) : rCat x y H Q := by
  obtain ⟨a, vs, rfl, h1, s1, p1⟩ := hs.list px e1
  obtain ⟨b, ws, rfl, h2, s2, p2⟩ := s1.list (LaddL.le _ _ py) e2
  exact ⟨a, b, vs, ws, rfl, rfl, h1, h2, by rw [p1.length, p2.length]; exact hl, fun p hp => hq _ _ _ _ S ((LaddL.le.trans LaddL.le).trans Ladd.le) Ladd.here (s2.lst hp ((p1.le LaddL.le).append p2)) h⟩
theorem dop_add [Tabl] {X : Cx} : DOp X (binaryOp .Add) (rAddG X.K) gAdd := ⟨op_add.or (op_add_str.or (op_cat.or op_catA)), fun {x y dx dy L H S T K Q} hs px py h hq => by
  unfold gAdd at h
  split at h
  · exact .inl ⟨_, _, hs.vint px, hs.vint py, hq.flat hs (d := .int _) rfl h⟩
  · exact .inr (.inl ⟨_, _, hs.vstr px, hs.vstr py, h.1, hq.flat hs (d := .str _) rfl h.2⟩)
  · obtain ⟨a, vs, rfl, h1, s1, p1⟩ := hs.tuple px
    obtain ⟨b, ws, rfl, h2, s2, p2⟩ := s1.tuple (LaddL.le _ _ py)
    refine .inr (.inr (.inr ⟨a, b, vs, ws, rfl, rfl, .of h1, .of h2, by rw [p1.length, p2.length]; exact h.1, fun e => ?_, fun _ e => ?_, fun _ _ p hp => ?_⟩))
    · have e2 : ∀ zs : List Dat, Ls (LaddL L vs zs) vs zs → zs = [] := fun zs q => List.eq_nil_of_length_eq_zero (by rw [← q.length, e]; rfl)
      rw [e2 _ p1, List.nil_append] at h
      exact hq _ _ _ _ S (.refl L) py hs h.2
    · have e2 : ∀ zs : List Dat, vs.length = vs.length → ws.length = zs.length → zs = [] := fun zs _ q => List.eq_nil_of_length_eq_zero (by rw [← q, e]; rfl)
      rw [e2 _ rfl p2.length, List.append_nil] at h
      exact hq _ _ _ _ S (.refl L) px hs h.2
    · exact hq _ _ _ _ S ((LaddL.le.trans LaddL.le).trans Ladd.le) Ladd.here (s2.tup hp ((p1.le LaddL.le).append p2)) h.2
  · split at h
    · rename_i e1 e2
      exact .inr (.inr (.inl (cat_imp hs px py e1 e2 h.1 h.2 hq)))
    · exact h.elim⟩
def gInt (C : Int → Int → Prop) (f : Int → Int → Int) : G2 := fun x y S K => match x, y with
  | .int i, .int j => C i j ∧ K (.int (f i j)) S
  | _, _ => False
theorem int_imp [Tabl] {C : Int → Int → Prop} {f : Int → Int → Int} : OpI (rI C fun i j => .int (f i j)) (gInt C f) := fun {x y dx dy L H S T K Q} hs px py h hq => by
  unfold gInt at h
  split at h
  · exact ⟨_, _, hs.vint px, hs.vint py, h.1, hq.flat hs (d := .int _) rfl h.2⟩
  · exact h.elim
def gInt0 (f : Int → Int → Int) : G2 := fun x y S K => match x, y with
  | .int i, .int j => K (.int (f i j)) S
  | _, _ => False
theorem int0_imp [Tabl] {f : Int → Int → Int} : OpI (rI0 fun i j => .int (f i j)) (gInt0 f) := fun {x y dx dy L H S T K Q} hs px py h hq => by
  unfold gInt0 at h
  split at h
  · exact ⟨_, _, hs.vint px, hs.vint py, hq.flat hs (d := .int _) rfl h⟩
  · exact h.elim
theorem dop_sub [Tabl] {X : Cx} : DOp X (binaryOp .Sub) (rI0 fun i j => .int (i - j)) (gInt0 fun i j => i - j) := ⟨op_sub, int0_imp⟩
theorem dop_mul [Tabl] {X : Cx} : DOp X (binaryOp .Mult) (rI CMul fun i j => .int (i * j)) (gInt CMul fun i j => i * j) := ⟨op_mul, int_imp⟩
theorem dop_mod [Tabl] {X : Cx} : DOp X (binaryOp .Mod) (rI (fun _ j => 0 < j) fun i j => .int (i % j)) (gInt (fun _ j => 0 < j) fun i j => i % j) := ⟨op_mod, int_imp⟩
theorem dop_fdiv [Tabl] {X : Cx} : DOp X (binaryOp .FloorDiv) (rI CDiv fun i j => .int (i / j)) (gInt CDiv fun i j => i / j) := ⟨op_fdiv, int_imp⟩
theorem dop_pow [Tabl] {X : Cx} : DOp X (binaryOp .Pow) (rI CPow fun i j => .int (i ^ j.toNat)) (gInt CPow fun i j => i ^ j.toNat) := ⟨op_pow, int_imp⟩
theorem de_neg [Tabl] {X : Cx} {W : WX} {a : Expr} {ta : TE} {ua : UE} {pos : Pos} (ha : DE X W a ta ua) : DE X W (.UnaryOp .USub a pos) (tUn (rU fun i => .int (-i)) ta) (uUn (fun d S K => match d with
    | .int i => K (.int (-i)) S
    | _ => False) ua) := ⟨pe_un un_neg ha.run, imp_un (fun {x dx L H S T K Q} hs px h hq => by
  cases dx with
  | int i => exact ⟨i, hs.vint px, hq.flat hs (d := .int _) rfl h⟩
  | _ => exact h.elim) ha.imp⟩
/-! ### order -/
def ltS (a b : Str) : Bool := decide (a.cps.toList < b.cps.toList)
def gLt : G2 := fun x y S K => match x, y with
  | .int i, .int j => K (.bl (decide (i < j))) S
  | .str a, .str b => K (.bl (ltS a b)) S
  | _, _ => False
def gLe : G2 := fun x y S K => match x, y with
  | .int i, .int j => K (.bl (decide (i ≤ j))) S
  | .str a, .str b => K (.bl (!ltS b a)) S
  | _, _ => False
def gGt : G2 := fun x y S K => match x, y with
  | .int i, .int j => K (.bl (decide (j < i))) S
  | .str a, .str b => K (.bl (ltS b a)) S
  | _, _ => False
def gGe : G2 := fun x y S K => match x, y with
  | .int i, .int j => K (.bl (decide (j ≤ i))) S
  | .str a, .str b => K (.bl (!ltS a b)) S
  | _, _ => False
def rOrdG (f : Int → Int → Bool) (g : Str → Str → Bool) : R2 := fun x y H Q => rI0 (fun i j => .bl (f i j)) x y H Q ∨ (∃ i j, x = .str i ∧ y = .str j ∧ Q (.bl (g i j)) H)
theorem dop_lt [Tabl] {X : Cx} : DOp X (compareOp .Lt) (rOrdG (fun i j => decide (i < j)) ltS) gLt := ⟨op_lt.or op_lt_str, fun {x y dx dy L H S T K Q} hs px py h hq => by
  unfold gLt at h
  split at h
  · exact .inl ⟨_, _, hs.vint px, hs.vint py, hq.flat hs (d := .bl _) rfl h⟩
  · exact .inr ⟨_, _, hs.vstr px, hs.vstr py, hq.flat hs (d := .bl _) rfl h⟩
  · exact h.elim⟩
theorem dop_le [Tabl] {X : Cx} : DOp X (compareOp .LtE) (rOrdG (fun i j => decide (i ≤ j)) fun a b => !ltS b a) gLe := ⟨op_le.or op_le_str, fun {x y dx dy L H S T K Q} hs px py h hq => by
  unfold gLe at h
  split at h
  · exact .inl ⟨_, _, hs.vint px, hs.vint py, hq.flat hs (d := .bl _) rfl h⟩
  · exact .inr ⟨_, _, hs.vstr px, hs.vstr py, hq.flat hs (d := .bl _) rfl h⟩
  · exact h.elim⟩
theorem dop_gt [Tabl] {X : Cx} : DOp X (compareOp .Gt) (rOrdG (fun i j => decide (j < i)) fun a b => ltS b a) gGt := ⟨op_gt.or op_gt_str, fun {x y dx dy L H S T K Q} hs px py h hq => by
  unfold gGt at h
  split at h
  · exact .inl ⟨_, _, hs.vint px, hs.vint py, hq.flat hs (d := .bl _) rfl h⟩
  · exact .inr ⟨_, _, hs.vstr px, hs.vstr py, hq.flat hs (d := .bl _) rfl h⟩
  · exact h.elim⟩
theorem dop_ge [Tabl] {X : Cx} : DOp X (compareOp .GtE) (rOrdG (fun i j => decide (j ≤ i)) fun a b => !ltS a b) gGe := ⟨op_ge.or op_ge_str, fun {x y dx dy L H S T K Q} hs px py h hq => by
  unfold gGe at h
  split at h
  · exact .inl ⟨_, _, hs.vint px, hs.vint py, hq.flat hs (d := .bl _) rfl h⟩
  · exact .inr ⟨_, _, hs.vstr px, hs.vstr py, hq.flat hs (d := .bl _) rfl h⟩
  · exact h.elim⟩
/-! ### equality -/
mutual
/-- data as the library's data -/
inductive Py (S : Store) : Dat → PyData → Prop where
  | non : Py S .non .none
  | bl {b : Bool} : Py S (.bl b) (.bool b)
  | int {i : Int} : Py S (.int i) (.int i)
  | str {x : Str} : Py S (.str x) (.str x)
  | lst {xs : List Dat} {ps : List PyData} : Pys S xs ps → Py S (.lst xs) (.list ps)
  | tup {xs : List Dat} {ps : List PyData} : Pys S xs ps → Py S (.tup xs) (.tuple ps)
  | cell {n : Nat} {xs : List Dat} {ps : List PyData} : S[n]? = some (.lst xs) → Pys S xs ps → Py S (.cell n) (.list ps)
inductive Pys (S : Store) : List Dat → List PyData → Prop where
  | nil : Pys S [] []
  | cons {d : Dat} {ds : List Dat} {p : PyData} {ps : List PyData} : Py S d p → Pys S ds ps → Pys S (d :: ds) (p :: ps)
end
section
variable {H : Hp} {R rho : List Addr} {S : Store} {KF : PySem.W.Frag}
mutual
theorem Py.dp (hn : ∀ (m : Nat) a d, rho[m]? = some a → S[m]? = some d → Node H R rho a d) : ∀ {d : Dat} {p : PyData} {v : V}, Py S d p → RD H R rho d v → Dp KF H v p
  | _, _, _, .non, h => by simp only [RD] at h; subst h; exact .non
  | _, _, _, .bl, h => by simp only [RD] at h; subst h; exact .bl _
  | _, _, _, .int, h => by simp only [RD] at h; subst h; exact .int _
  | _, _, _, .str, h => by simp only [RD] at h; subst h; exact .str _
  | _, _, _, .lst q, h => by
    simp only [RD] at h
    obtain ⟨a, vs, rfl, _, e, r⟩ := h
    exact .lst (.of e) (Pys.dp hn q r)
  | _, _, _, .tup q, h => by
    simp only [RD] at h
    obtain ⟨a, vs, rfl, _, e, r⟩ := h
    exact .tup (.of e) (Pys.dp hn q r)
  | _, _, _, .cell hc q, h => by
    simp only [RD] at h
    obtain ⟨a, ha, rfl⟩ := h
    obtain ⟨vs, e, r⟩ := hn _ a _ ha hc
    exact .lst (.of e) (Pys.dp hn q r)
theorem Pys.dp (hn : ∀ (m : Nat) a d, rho[m]? = some a → S[m]? = some d → Node H R rho a d) : ∀ {ds : List Dat} {ps : List PyData} {vs : List V}, Pys S ds ps → RDs H R rho ds vs → DpAll KF H vs ps
  | _, _, _, .nil, h => by simp only [RDs] at h; subst h; exact .nil
  | _, _, _, .cons q qs, h => by
    simp only [RDs] at h
    obtain ⟨w, ws, rfl, h1, h2⟩ := h
    exact .cons (Py.dp hn q h1) (Pys.dp hn qs h2)
end
end
/-- flat pairs that == tells apart at once -/
def scalD : Dat → Dat → Option Bool
  | .int i, .int j => some (decide (i = j))
  | .str i, .str j => some (decide (i = j))
  | .bl i, .bl j => some (decide (i = j))
  | .non, .non => some true
  | .non, .int _ => some false | .int _, .non => some false | .non, .bl _ => some false | .bl _, .non => some false | .non, .str _ => some false | .str _, .non => some false
  | .int _, .str _ => some false | .str _, .int _ => some false | .bl _, .str _ => some false | .str _, .bl _ => some false
  | _, _ => none
theorem scalD_ok [Tabl] {H : Hp} {L : LL} {S : Store} {T : List (Addr × HO)} {x y : V} {dx dy : Dat} {b : Bool} (hs : SR H L S T) (px : L x dx) (py : L y dy) (h : scalD dx dy = some b) : scal x y = true ∧ decide (x = y) = b := by
  cases dx <;> cases dy <;> simp only [scalD, Option.some.injEq] at h <;> try (cases h) <;> try (injection h)
  all_goals first
    | (rw [hs.vint px, hs.vint py]; exact ⟨rfl, by simp⟩)
    | (rw [hs.vstr px, hs.vstr py]; exact ⟨rfl, by simp⟩)
    | (rw [hs.vbl px, hs.vbl py]; exact ⟨rfl, by simp⟩)
    | (rw [hs.vnon px, hs.vnon py]; exact ⟨rfl, by simp⟩)
    | (rw [hs.vnon px, hs.vint py]; exact ⟨rfl, by simp⟩)
    | (rw [hs.vint px, hs.vnon py]; exact ⟨rfl, by simp⟩)
    | (rw [hs.vnon px, hs.vbl py]; exact ⟨rfl, by simp⟩)
    | (rw [hs.vbl px, hs.vnon py]; exact ⟨rfl, by simp⟩)
    | (rw [hs.vnon px, hs.vstr py]; exact ⟨rfl, by simp⟩)
    | (rw [hs.vstr px, hs.vnon py]; exact ⟨rfl, by simp⟩)
    | (rw [hs.vint px, hs.vstr py]; exact ⟨rfl, by simp⟩)
    | (rw [hs.vstr px, hs.vint py]; exact ⟨rfl, by simp⟩)
    | (rw [hs.vbl px, hs.vstr py]; exact ⟨rfl, by simp⟩)
    | (rw [hs.vstr px, hs.vbl py]; exact ⟨rfl, by simp⟩)
def gEqB (f : Bool → Bool) : G2 := fun x y S K => match scalD x y with
  | some b => K (.bl (f b)) S
  | none => ∃ p q, Py S x p ∧ Py S y q ∧ SeqAt.shaped p = true ∧ SeqAt.shaped q = true ∧ K (.bl (f (PyData.eqv p q))) S
def gEq : G2 := gEqB id
def gNe : G2 := gEqB (!·)
theorem dop_eq [Tabl] {X : Cx} (hu : X.A.units + 64 < cLine) : DOp X (compareOp .Eq) (fun x y H Q => rEq x y H Q ∨ rEqD X.K x y H Q) gEq := ⟨op_eq.or (op_eqD hu), fun {x y dx dy L H S T K Q} hs px py h hq => by
  unfold gEq gEqB at h
  split at h
  · rename_i b e
    obtain ⟨h1, h2⟩ := scalD_ok hs px py e
    exact .inl ⟨h1, by rw [h2]; exact hq.flat hs (d := .bl _) rfl h⟩
  · obtain ⟨p, q, h1, h2, h3, h4, h⟩ := h
    obtain ⟨rho, z⟩ := id hs
    exact .inr ⟨p, q, h1.dp z.node (z.rd _ _ px), h2.dp z.node (z.rd _ _ py), h3, h4, hq.flat hs (d := .bl _) rfl h⟩⟩
theorem dop_ne [Tabl] {X : Cx} (hu : X.A.units + 64 < cLine) : DOp X (compareOp .NotEq) (fun x y H Q => rNe x y H Q ∨ rNeD X.K x y H Q) gNe := ⟨op_ne.or (op_neD hu), fun {x y dx dy L H S T K Q} hs px py h hq => by
  unfold gNe gEqB at h
  split at h
  · rename_i b e
    obtain ⟨h1, h2⟩ := scalD_ok hs px py e
    exact .inl ⟨h1, by rw [h2]; exact hq.flat hs (d := .bl _) rfl h⟩
  · obtain ⟨p, q, h1, h2, h3, h4, h⟩ := h
    obtain ⟨rho, z⟩ := id hs
    exact .inr ⟨p, q, h1.dp z.node (z.rd _ _ px), h2.dp z.node (z.rd _ _ py), h3, h4, hq.flat hs (d := .bl _) rfl h⟩⟩
/-! ### is None -/
def isNonD : Dat → Bool
  | .non => true
  | _ => false
def noRaw : Dat → Bool
  | .raw _ => false
  | _ => true
theorem SR.isNon [Tabl] {H : Hp} {L : LL} {S : Store} {T : List (Addr × HO)} {v : V} {d : Dat} (hs : SR H L S T) (p : L v d) (hr : noRaw d = true) : decide (v = .non) = isNonD d := by
  obtain ⟨rho, x⟩ := hs
  have q := x.rd _ _ p
  cases d with
  | raw w => cases hr
  | non => simp only [RD] at q; subst q; rfl
  | bl b => simp only [RD] at q; subst q; rfl
  | int b => simp only [RD] at q; subst q; rfl
  | str b => simp only [RD] at q; subst q; rfl
  | lst xs => simp only [RD] at q; obtain ⟨a, vs, rfl, _⟩ := q; rfl
  | tup xs => simp only [RD] at q; obtain ⟨a, vs, rfl, _⟩ := q; rfl
  | dct ks xs => simp only [RD] at q; obtain ⟨a, vs, rfl, _⟩ := q; rfl
  | dtt ks xs => simp only [RD] at q; obtain ⟨a, vs, rfl, _⟩ := q; rfl
  | sq ks xs => simp only [RD] at q; obtain ⟨a, rfl, _⟩ := q; rfl
  | ins C ks xs => simp only [RD] at q; obtain ⟨a, dx, vs, rfl, _⟩ := q; rfl
  | xd ks xs => simp only [RD] at q; obtain ⟨a, vs, rfl, _⟩ := q; rfl
  | cell n => simp only [RD] at q; obtain ⟨a, _, rfl⟩ := q; rfl
  | fn l cl => simp only [RD] at q; obtain ⟨a, rfl, _⟩ := q; rfl
  | exv a d ks xs => simp only [RD] at q; obtain ⟨rfl, _⟩ := q; rfl
def gIs (f : Bool → Bool) : G2 := fun x y S K => match y with
  | .non => noRaw x = true ∧ K (.bl (f (isNonD x))) S
  | _ => False
theorem dop_is [Tabl] {X : Cx} : DOp X (compareOp .Is) (fun x y H Q => y = .non ∧ Q (.bl (decide (x = .non))) H) (gIs id) := ⟨op_isN, fun {x y dx dy L H S T K Q} hs px py h hq => by
  unfold gIs at h
  split at h
  · refine ⟨hs.vnon py, ?_⟩
    rw [hs.isNon px h.1]
    exact hq.flat hs (d := .bl _) rfl h.2
  · exact h.elim⟩
/-! ### in -/
/-- one sign -/
def sgn (c : Nat) : Str := ⟨#[c]⟩
def seqD (S : Store) : Dat → Option (List Dat)
  | .tup xs => some xs
  | .lst xs => some xs
  | .cell n => match S[n]? with
    | some (.lst xs) => some xs
    | _ => none
  | _ => none
theorem SR.seq [Tabl] {H : Hp} {L : LL} {S : Store} {T : List (Addr × HO)} {v : V} {d : Dat} {ds : List Dat} {KF : PySem.W.Frag} (hs : SR H L S T) (p : L v d) (e : seqD S d = some ds) :
    ∃ a vs, v = .ref a ∧ (SqL KF H a vs ∨ SqT KF H a vs) ∧ SR H (LaddL L vs ds) S T ∧ Ls (LaddL L vs ds) vs ds := by
  cases d with
  | tup xs => simp [seqD] at e; subst e; obtain ⟨a, vs, h1, h2, h3⟩ := hs.tuple p; exact ⟨a, vs, h1, .inr (.of h2), h3⟩
  | lst xs => simp [seqD] at e; subst e; obtain ⟨a, vs, h1, h2, h3⟩ := hs.list p rfl; exact ⟨a, vs, h1, .inl (.of h2), h3⟩
  | cell n =>
    have e : (match S[n]? with
      | some (.lst xs) => some xs
      | _ => none) = some ds := e
    cases q : S[n]? with
    | none => rw [q] at e; cases e
    | some c =>
      rw [q] at e
      cases c with
      | lst xs =>
        injection e with e
        subst e
        obtain ⟨a, vs, h1, h2, h3⟩ := hs.list p (ds := xs) q
        exact ⟨a, vs, h1, .inl (.of h2), h3⟩
      | _ => cases e
  | _ => simp [seqD] at e
/-- what «in» asks of the item and a list's flat items, by values -/
def inF (x : Dat) (xs : List Dat) : Option Bool := match flat? x, xs.mapM flat? with
  | some v, some vs => some (inV v vs)
  | _, _ => none
theorem flatV_of {d : Dat} {w : V} (h : flat? d = some w) : flatV w = true := by
  cases d <;> simp [flat?] at h <;> subst h <;> rfl
theorem flatsV_of : ∀ {ds : List Dat} {ws : List V}, ds.mapM flat? = some ws → ws.all flatV = true
  | [], ws, h => by simp at h; subst h; rfl
  | d :: ds, ws, h => by
    rw [List.mapM_cons] at h
    cases e1 : flat? d with
    | none => rw [e1] at h; cases h
    | some w =>
      cases e2 : ds.mapM flat? with
      | none => rw [e1, e2] at h; cases h
      | some us =>
        rw [e1, e2] at h
        injection h with h
        subst h
        rw [List.all_cons, flatV_of e1, flatsV_of e2]
        rfl
def gIn (f : Bool → Bool) : G2 := fun x y S K => match x, y with
  | .str a, .str z => ∃ c, a = sgn c ∧ K (.bl (f (decide (c ∈ z.cps.toList)))) S
  | x, y => ∃ xs b, seqD S y = some xs ∧ inF x xs = some b ∧ K (.bl (f b)) S
theorem in_imp [Tabl] {x y : V} {dx dy : Dat} {L : LL} {H : Hp} {S : Store} {T : List (Addr × HO)} {K : KE} {Q : VK} {xs : List Dat} {b neg : Bool} {KF : PySem.W.Frag} (hs : SR H L S T) (px : L x dx) (py : L y dy) (e1 : seqD S dy = some xs) (e2 : inF dx xs = some b)
    (h : K (.bl (if neg then !b else b)) S) (hq : EOk L T K Q) : rIn KF neg x y H Q := by
  obtain ⟨a, vs, rfl, h1, s1, p1⟩ := hs.seq (KF := KF) py e1
  unfold inF at e2
  cases f1 : flat? dx with
  | none => rw [f1] at e2; cases e2
  | some w =>
    cases f2 : xs.mapM flat? with
    | none => rw [f1, f2] at e2; cases e2
    | some ws =>
      rw [f1, f2] at e2
      injection e2 with e2
      have ev : vs = ws := p1.flats s1 f2
      subst ev
      rw [hs.vflat f1 px]
      refine ⟨a, vs, rfl, h1, flatV_of f1, flatsV_of f2, ?_⟩
      rw [e2]
      exact hq.flat hs (d := .bl _) rfl h
def rInG (K : PySem.W.Frag) (neg : Bool) : R2 := fun x y H Q => (∃ (c : Nat) (z : Str), x = .str ⟨#[c]⟩ ∧ y = .str z ∧ Q (.bl (if neg then !decide (c ∈ z.cps.toList) else decide (c ∈ z.cps.toList))) H) ∨ rIn K neg x y H Q
theorem dop_in [Tabl] {X : Cx} : DOp X (compareOp .In) (rInG X.K false) (gIn id) := ⟨(show OpR X (compareOp .In) (fun x y H Q => (∃ (c : Nat) (z : Str), x = .str ⟨#[c]⟩ ∧ y = .str z ∧ Q (.bl (decide (c ∈ z.cps.toList))) H) ∨ rIn X.K false x y H Q) from op_in_sign.or op_in_seq), fun {x y dx dy L H S T K Q} hs px py h hq => by
  unfold gIn at h
  split at h
  · obtain ⟨c, rfl, h⟩ := h
    exact .inl ⟨c, _, hs.vstr px, hs.vstr py, hq.flat hs (d := .bl _) rfl h⟩
  · obtain ⟨xs, b, e1, e2, h⟩ := h
    exact .inr (in_imp hs px py e1 e2 h hq)⟩
/-! ### subscripts, slices -/
def gIx : G2 := fun x y S K => match x, y with
  | .str z, .int i => z.length ≤ sizeLine ∧ ∃ c, atI z.cps.toList i = some c ∧ K (.str (sgn c)) S
  | x, .int i => ∃ xs d, seqD S x = some xs ∧ atI xs i = some d ∧ K d S
  | _, _ => False
theorem atI_ls {L : LL} {vs : List V} {ds : List Dat} {i : Int} {d : Dat} (p : Ls L vs ds) (h : atI ds i = some d) : ∃ v, atI vs i = some v ∧ L v d := by
  unfold atI at h ⊢
  rw [p.length]
  cases e : ixN ds.length i with
  | none => rw [e] at h; cases h
  | some j =>
    rw [e] at h
    obtain ⟨v, h1, h2⟩ := p.get (i := j) (d := d) h
    exact ⟨v, h1, h2⟩
theorem ix_imp [Tabl] {KF : PySem.W.Frag} : OpI (rIx KF) gIx := fun {x y dx dy L H S T K Q} hs px py h hq => by
  unfold gIx at h
  split at h
  · obtain ⟨h1, c, h2, h⟩ := h
    exact .inr (.inr ⟨_, _, c, hs.vstr px, hs.vint py, h1, h2, hq.flat hs (d := .str _) rfl h⟩)
  · obtain ⟨xs, d, e1, e2, h⟩ := h
    obtain ⟨a, vs, rfl, h1, s1, p1⟩ := hs.seq (KF := KF) px e1
    obtain ⟨v, h2, h3⟩ := atI_ls p1 e2
    rcases h1 with h1 | h1
    · exact .inl ⟨a, vs, _, v, rfl, hs.vint py, h1, h2, hq _ _ _ _ S LaddL.le h3 s1 h⟩
    · exact .inr (.inl ⟨a, vs, _, v, rfl, hs.vint py, h1, h2, hq _ _ _ _ S LaddL.le h3 s1 h⟩)
  · exact h.elim
section
variable {X : Cx} {W : WX} {a b : Expr} {ta tb : TE} {ua ub : UE} {pos : Pos}
theorem de_ix [Tabl] (ha : DE X W a ta ua) (hb : DE X W b tb ub) (hs : PlainIx b := by exact fun _ _ => rfl) : DE X W (.Subscript a b pos) (tOp (rIx X.K) ta tb) (uOp gIx ua ub) := ⟨pe_ix ix_seq ha.run hb.run hs, imp_op ix_imp ha.imp hb.imp⟩
/-- a slice's part -/
abbrev UO := Env' → Store → (Option Int → Store → Prop) → KX → Prop
def ImpO [Tabl] (W : WX) (t : TO) (u : UO) : Prop := ∀ {sg dl L H S T K X Q}, EnvIn sg dl L → SR H L S T → u dl S K X → (∀ o L' H' S', Lle L L' → SR H' L' S' T → K o S' → Q o H') → XOk W sg L T X → t sg H Q
structure DO [Tabl] (X : Cx) (W : WX) (e : Option Expr) (t : TO) (u : UO) : Prop where
  run : PO X e t
  imp : ImpO W t u
def uNo : UO := fun _ S K _ => K none S
def uPart (ua : UE) : UO := fun dl S K X => ua dl S (fun d S1 => match d with
  | .int i => K (some i) S1
  | _ => False) X
theorem do_none [Tabl] : DO X W none tNoPart uNo := ⟨po_none, fun {sg dl L H S T K X Q} _ hs h hq _ => hq none L H S (.refl L) hs h⟩
theorem do_some [Tabl] (ha : DE X W a ta ua) : DO X W (some a) (tPart ta) (uPart ua) := ⟨po_some ha.run, fun {sg dl L H S T K X Q} he hs h hq hx => ha.imp he hs h (fun v d L1 H1 S1 l1 p1 s1 h1 => by
  cases d with
  | int i => exact ⟨i, s1.vint p1, hq _ L1 H1 S1 l1 s1 h1⟩
  | _ => exact h1.elim) hx⟩
def cutD (xs : List Dat) (lo hi : Option Int) : List Dat := (xs.drop (HT.sIx xs.length 0 lo)).take (HT.sIx xs.length xs.length hi - HT.sIx xs.length 0 lo)
theorem Ls.drop {L : LL} : ∀ {vs : List V} {ds : List Dat} (n : Nat), Ls L vs ds → Ls L (vs.drop n) (ds.drop n)
  | _, _, 0, h => h
  | [], [], n + 1, _ => True.intro
  | v :: vs, d :: ds, n + 1, h => Ls.drop n h.2
  | [], _ :: _, _ + 1, h => h.elim
  | _ :: _, [], _ + 1, h => h.elim
theorem Ls.take {L : LL} : ∀ {vs : List V} {ds : List Dat} (n : Nat), Ls L vs ds → Ls L (vs.take n) (ds.take n)
  | _, _, 0, h => by simp [Ls]
  | [], [], n + 1, _ => True.intro
  | v :: vs, d :: ds, n + 1, h => ⟨h.1, Ls.take n h.2⟩
  | [], _ :: _, _ + 1, h => h.elim
  | _ :: _, [], _ + 1, h => h.elim
theorem Ls.cut {L : LL} {vs : List V} {ds : List Dat} {lo hi : Option Int} (h : Ls L vs ds) : Ls L (cutV vs lo hi) (cutD ds lo hi) := by
  unfold cutV cutD
  rw [h.length]
  exact Ls.take _ (Ls.drop _ h)
def gSl (x : Dat) (lo hi : Option Int) (S : Store) (K : KE) : Prop := match x with
  | .str z => z.length ≤ sizeLine ∧ K (.str (cutS z lo hi)) S
  | .tup xs => K (.tup (cutD xs lo hi)) S
  | x => match view S x with
    | some (.lst xs) => K (.lst (cutD xs lo hi)) S
    | _ => False
def uSl (ua : UE) (ul uh : UO) : UE := fun dl S K X => ua dl S (fun d S1 => ul dl S1 (fun l S2 => uh dl S2 (fun h S3 => gSl d l h S3 K) X) X) X
/-- of the script alone -/
def uSlQ (KF : PySem.W.Frag) (ua : UE) (ul uh : UO) : UE := fun dl S K X => ua dl S (fun d S1 => ul dl S1 (fun l S2 => uh dl S2 (fun h S3 => ∃ (ns ms : List Int), d = .sq KF ns ∧ cutV (ns.map V.int) l h = ms.map V.int ∧ K (.lst (ms.map .int)) S3) X) X) X
theorem sq_at [Tabl] {H : Hp} {L : LL} {S : Store} {T : List (Addr × HO)} {v : V} {K' : PySem.W.Frag} {ns : List Int} (hs : SR H L S T) (p : L v (.sq K' ns)) : ∃ a, v = .ref a ∧ SqL K' H a (ns.map V.int) := by
  obtain ⟨rho, x⟩ := hs
  have q := x.rd _ _ p
  simp only [RD] at q
  obtain ⟨a, rfl, q⟩ := q
  refine ⟨a, rfl, ?_⟩
  rcases q with ⟨_, q⟩ | q
  · exact .inl q
  · rcases q with q | q
    · rcases q with q | ⟨o, q⟩ <;> cases q
    · exact .inr q
theorem Ls.flatI [Tabl] {L : LL} {H : Hp} {S : Store} {T : List (Addr × HO)} (s : SR H L S T) : ∀ ns : List Int, ∃ L', Lle L L' ∧ Ls L' (ns.map V.int) (ns.map Dat.int) ∧ SR H L' S T := fun ns => s.flats (by
    induction ns with
    | nil => trivial
    | cons n ns ih => exact ⟨rfl, ih⟩)
def rSlG (K' : PySem.W.Frag) : V → Option Int → Option Int → Hp → VK → Prop := fun x lo hi H Q => rSlL K' x lo hi H Q ∨ rSlS x lo hi H Q ∨ rSlA K' x lo hi H Q
theorem sl_imp [Tabl] {L : LL} {H : Hp} {S : Store} {T : List (Addr × HO)} {x : V} {d : Dat} {lo hi : Option Int} {K : KE} {Q : VK} {KF : PySem.W.Frag} (hs : SR H L S T) (p : L x d) (h : gSl d lo hi S K) (hq : EOk L T K Q) : rSlG KF x lo hi H Q := by
  unfold gSl at h
  split at h
  · exact .inr (.inl ⟨_, hs.vstr p, h.1, hq.flat hs (d := .str _) rfl h.2⟩)
  · obtain ⟨a, vs, rfl, h1, s1, p1⟩ := hs.tuple p
    refine .inr (.inr ⟨a, vs, rfl, .of h1, fun e => ?_, fun _ q hp => hq _ _ _ _ S (LaddL.le.trans Ladd.le) Ladd.here (s1.tup hp p1.cut) h⟩)
    have e2 : ∀ zs : List Dat, vs.length = zs.length → cutD zs lo hi = zs := fun zs q => by
      unfold cutD
      rw [← q, e.1, e.2]
      simp [q]
    rw [e2 _ p1.length] at h
    exact hq _ _ _ _ S (.refl L) p hs h
  · split at h
    · rename_i xs e
      obtain ⟨a, vs, rfl, h1, s1, p1⟩ := hs.list p e
      exact .inl ⟨a, vs, rfl, .of h1, fun q hp => hq _ _ _ _ S (LaddL.le.trans Ladd.le) Ladd.here (s1.lst hp p1.cut) h⟩
    · exact h.elim
theorem de_sl [Tabl] {lo hi : Option Expr} {tl th : TO} {ul uh : UO} {p2 : Pos} (ha : DE X W a ta ua) (hl : DO X W lo tl ul) (hh : DO X W hi th uh) : DE X W (.Subscript a (.Slice lo hi none p2) pos) (tSl (rSlG X.K) ta tl th) (uSl ua ul uh) :=
  ⟨pe_slice (sl_list.or (sl_str.or sl_tupA)) ha.run hl.run hh.run, fun {sg dl L H S T K X' Q} he hs h hq hx =>
    ha.imp he hs h (fun v d L1 H1 S1 l1 p1 s1 h1 => hl.imp (he.le l1) s1 h1 (fun l L2 H2 S2 l2 s2 h2 => hh.imp ((he.le l1).le l2) s2 h2 (fun h L3 H3 S3 l3 s3 h3 => sl_imp s3 (l3 _ _ (l2 _ _ p1)) h3 (hq.le ((l1.trans l2).trans l3))) (hx.le (l1.trans l2))) (hx.le l1)) hx⟩
theorem de_slQ [Tabl] {lo hi : Option Expr} {tl th : TO} {ul uh : UO} {p2 : Pos} (ha : DE X W a ta ua) (hl : DO X W lo tl ul) (hh : DO X W hi th uh) : DE X W (.Subscript a (.Slice lo hi none p2) pos) (tSl (rSlL X.K) ta tl th) (uSlQ X.K ua ul uh) :=
  ⟨pe_slice sl_list ha.run hl.run hh.run, fun {sg dl L H S T K X' Q} he hs h hq hx =>
    ha.imp he hs h (fun v d L1 H1 S1 l1 p1 s1 h1 => hl.imp (he.le l1) s1 h1 (fun l L2 H2 S2 l2 s2 h2 => hh.imp ((he.le l1).le l2) s2 h2 (fun h L3 H3 S3 l3 s3 h3 => by
      obtain ⟨ns, ms, rfl, em, h3⟩ := h3
      obtain ⟨a, rfl, hq'⟩ := sq_at s3 (l3 _ _ (l2 _ _ p1))
      obtain ⟨L4, l4, p4, s4⟩ := Ls.flatI s3 ms
      exact ⟨a, _, rfl, hq', fun q hp => by rw [em]; exact hq _ _ _ _ S3 ((((l1.trans l2).trans l3).trans l4).trans Ladd.le) Ladd.here (s4.lst hp p4) h3⟩) (hx.le (l1.trans l2))) (hx.le l1)) hx⟩
end
end DL
/-! DL6: built-ins and methods over data. -/
namespace DL
open PySem L2
structure DCb [Tabl] (X : Cx) (f : Value) (r : List V → Hp → VK → Prop) (g : GL) : Prop where
  run : CallR X f r
  imp : CbI r g
section
variable {X : Cx} {W : WX} {e : Expr} {es : List Expr} {t : TA} {u : UA} {r : List V → Hp → VK → Prop} {g : GL} {x : Str} {id T : String} {p pos : Pos}
theorem imp_cb [Tabl] (hc : CbI r g) (ha : ImpA W t u) : ImpE W (tCB r t) (uCB g u) := fun {sg dl L H S T K X Q} he hs h hq hx => ha he hs h (fun vs ds L1 H1 S1 l1 p1 s1 h1 => hc s1 p1 h1 (hq.le l1)) hx
theorem de_callB [Tabl] (hc : DCb X (.builtin id) r g) (hm : X.mg x = none) (ha : DA X W (e :: es) t u) (hg : Gl X x := by rfl) (hv : bootBuiltins x = some (.builtin id) := by decide +kernel) (hn : x ≠ "__name__" := by decide) (hdb : (x == ("__debug__" : Str)) = false := by decide)
    (he : starEach (e :: es) X.env = (false, eval e X.env) :: starEach es X.env := by rfl) (hpl : (backTo pos (starEach es X.env)).any (·.1) = false := by rfl) :
    DE X W (.Call (.Name x p) (e :: es) [] pos) (tCB r t) (uCB g u) := ⟨pe_callB hc.run hg hm hv ha.run hn hdb he hpl, imp_cb hc.imp ha.imp⟩
theorem de_callT [Tabl] (hc : DCb X (.type T) r g) (hm : X.mg x = none) (ha : DA X W (e :: es) t u) (hg : Gl X x := by rfl) (hv : bootBuiltins x = some (.type T) := by decide +kernel) (hn : x ≠ "__name__" := by decide) (hdb : (x == ("__debug__" : Str)) = false := by decide)
    (he : starEach (e :: es) X.env = (false, eval e X.env) :: starEach es X.env := by rfl) (hpl : (backTo pos (starEach es X.env)).any (·.1) = false := by rfl) :
    DE X W (.Call (.Name x p) (e :: es) [] pos) (tCB r t) (uCB g u) := ⟨pe_callTy hc.run hg hm hv ha.run hn hdb he hpl, imp_cb hc.imp ha.imp⟩
/-- a built-in class as a value -/
theorem de_ty [Tabl] {T : String} (hm : X.mg x = none) (hg : Gl X x := by rfl) (hv : bootBuiltins x = some (.type T) := by decide +kernel) (hn : x ≠ "__name__" := by decide) (hd : (x == ("__debug__" : Str)) = false := by decide) : DE X W (.Name x pos) (tC (.ty T)) (uC (.raw (.ty T))) := ⟨pe_bltn hg hm hv rfl hn hd, imp_c (d := .raw (.ty T)) (v := .ty T) rfl⟩
end
/-! ### len, int, str, abs -/
def gLen : GL := fun ds S K => match ds with
  | [.str z] => z.length ≤ sizeLine ∧ K (.int z.length) S
  | [d] => ∃ xs, seqD S d = some xs ∧ K (.int xs.length) S
  | _ => False
theorem dcb_len [Tabl] {X : Cx} : DCb X (.builtin "len") (fun xs H Q => ∃ x n, xs = [x] ∧ LenV X.K x H n ∧ Q (.int n) H) gLen := ⟨call_len, fun {xs ds L H S T K Q} hs p h hq => by
  unfold gLen at h
  split at h
  · obtain ⟨v, rfl, pv⟩ := p.one
    rw [hs.vstr pv]
    exact ⟨_, _, rfl, ⟨h.1, rfl⟩, hq.flat hs (d := .int _) rfl h.2⟩
  · obtain ⟨v, rfl, pv⟩ := p.one
    obtain ⟨ys, e, h⟩ := h
    obtain ⟨a, vs, rfl, h1, s1, p1⟩ := hs.seq (KF := X.K) pv e
    refine ⟨_, ys.length, rfl, ?_, hq.flat hs (d := .int _) rfl h⟩
    rcases h1 with h1 | h1
    · exact .inl ⟨vs, h1, p1.length.symm⟩
    · exact .inr ⟨vs, h1, p1.length.symm⟩
  · exact h.elim⟩
def gInt1 : GL := fun ds S K => match ds with
  | [.int i] => K (.int i) S
  | [.bl b] => K (.int (if b then 1 else 0)) S
  | [.str a] => ∃ n, PySem.intText? a = some n ∧ a.length ≤ 640 ∧ K (.int n) S
  | _ => False
theorem CallR.or {X : Cx} {f : Value} {r r' : List V → Hp → VK → Prop} (h : CallR X f r) (h' : CallR X f r') : CallR X f (fun xs H Q => r xs H Q ∨ r' xs H Q) := by
  intro pins s sg H xs us Q I r q
  rcases q with q | q
  · exact h pins s sg H xs us Q I r q
  · exact h' pins s sg H xs us Q I r q
theorem dcb_int [Tabl] {X : Cx} : DCb X (.type "int") (fun xs H Q => ((∃ i, xs = [.int i] ∧ Q (.int i) H) ∨ ∃ k, xs = [.bl k] ∧ Q (.int (if k then 1 else 0)) H) ∨ ∃ a n, xs = [.str a] ∧ PySem.intText? a = some n ∧ a.length ≤ 640 ∧ Q (.int n) H) gInt1 := ⟨CallR.or call_int1 call_int_str, fun {xs ds L H S T K Q} hs p h hq => by
  unfold gInt1 at h
  split at h
  · obtain ⟨v, rfl, pv⟩ := p.one
    rw [hs.vint pv]
    exact .inl (.inl ⟨_, rfl, hq.flat hs (d := .int _) rfl h⟩)
  · obtain ⟨v, rfl, pv⟩ := p.one
    rw [hs.vbl pv]
    exact .inl (.inr ⟨_, rfl, hq.flat hs (d := .int _) rfl h⟩)
  · obtain ⟨v, rfl, pv⟩ := p.one
    obtain ⟨n, h1, h2, h⟩ := h
    rw [hs.vstr pv]
    exact .inr ⟨_, n, rfl, h1, h2, hq.flat hs (d := .int _) rfl h⟩
  · exact h.elim⟩
def gStr1 : GL := fun ds S K => match ds with
  | [.int i] => i.natAbs.log2 < 1920 ∧ K (.str (toString i)) S
  | _ => False
def gAbs : GL := fun ds S K => match ds with
  | [.int i] => K (.int (if i < 0 then -i else i)) S
  | _ => False
theorem dcb_abs [Tabl] {X : Cx} : DCb X (.builtin "abs") (fun xs H Q => ∃ i, xs = [.int i] ∧ Q (.int (if i < 0 then -i else i)) H) gAbs := ⟨call_abs, fun {xs ds L H S T K Q} hs p h hq => by
  unfold gAbs at h
  split at h
  · obtain ⟨v, rfl, pv⟩ := p.one
    rw [hs.vint pv]
    exact ⟨_, rfl, hq.flat hs (d := .int _) rfl h⟩
  · exact h.elim⟩
/-! ### isinstance -/
def tyS (S : Store) : Dat → Option String
  | .non => some "NoneType" | .bl _ => some "bool" | .int _ => some "int" | .str _ => some "str"
  | .lst _ => some "list" | .tup _ => some "tuple"
  | .cell n => match S[n]? with
    | some (.lst _) => some "list"
    | some (.dct _ _) => some "dict"
    | _ => none
  | _ => none
def isB (t u : String) : Bool := t == u || (t == "bool" && u == "int")
def tyNames : List String := ["NoneType", "bool", "int", "str", "list", "tuple", "dict"]
theorem isB_ok {t u : String} (h : t ∈ tyNames) (k : u ∈ tyNames) : kitB t u = some (isB t u) := by
  have : tyNames.all (fun t => tyNames.all fun u => decide (kitB t u = some (isB t u))) = true := by decide +kernel
  exact of_decide_eq_true (List.all_eq_true.mp (List.all_eq_true.mp this t h) u k)
/-- what isinstance asks of an own class -/
structure InsTy (K : PySem.W.Frag) (C : Addr) : Prop where
  cl : Cls K C
  ha : PySem.W.findIn K (.ref C) "__class__" = some (some (.builtin "object.__class__"))
  hn : PySem.W.specialIn K (.builtin "object.__class__") "__get__" = some (some (.builtin "getset_descriptor.__get__"))
  htk : PySem.W.takesIn K (.builtin "object.__class__") = some true
  hm : PySem.W.mroIn K C (.type "object") = some true
def insC (S : Store) : Dat → Option Addr
  | .ins C _ _ => some C
  | .cell n => match S[n]? with
    | some (.ins C _ _) => some C
    | _ => none
  | _ => none
def clsV : Dat → Option Value
  | .raw (.ty n) => some (.type n)
  | .raw (.ref C) => some (.ref C)
  | _ => none
def isOne (KF : PySem.W.Frag) (S : Store) (d c : Dat) (b : Bool) : Prop := match tyS S d, c with
  | some t, .raw (.ty u) => u ∈ tyNames ∧ b = isB t u
  | some t, .raw (.ref C) => PySem.W.kitOne KF (.type t) (.ref C) = some b
  | none, c => ∃ C u, insC S d = some C ∧ InsTy KF C ∧ clsV c = some u ∧ PySem.W.kitOne KF (.ref C) u = some b
  | _, _ => False
/-- the answer for several classes -/
def isAny (KF : PySem.W.Frag) (S : Store) (d : Dat) : List Dat → Bool → Prop
  | [], b => b = false
  | c :: cs, b => ∃ k, isOne KF S d c k ∧ (k = true → b = true) ∧ (k = false → isAny KF S d cs b)
def gIsi (KF : PySem.W.Frag) : GL := fun ds S K => match ds with
  | [d, .tup (c :: cs)] => (c :: cs).all (fun c => (clsV c).isSome) = true ∧ ∃ b, isAny KF S d (c :: cs) b ∧ K (.bl b) S
  | [d, c] => ∃ b, isOne KF S d c b ∧ K (.bl b) S
  | _ => False
section
variable {KF : PySem.W.Frag} {H : Hp} {L : LL} {S : Store} {T : List (Addr × HO)} {v : V} {d c : Dat}
theorem tyS_ok [Tabl] (hs : SR H L S T) (p : L v d) {t : String} (h : tyS S d = some t) : TyX KF H v (.type t) ∧ t ∈ tyNames := by
  cases d with
  | non => simp [tyS] at h; subst h; rw [hs.vnon p]; exact ⟨.base .non, by decide⟩
  | bl b => simp [tyS] at h; subst h; rw [hs.vbl p]; exact ⟨.base (.bl _), by decide⟩
  | int b => simp [tyS] at h; subst h; rw [hs.vint p]; exact ⟨.base (.int _), by decide⟩
  | str b => simp [tyS] at h; subst h; rw [hs.vstr p]; exact ⟨.base (.str _), by decide⟩
  | lst xs => simp [tyS] at h; subst h; obtain ⟨a, vs, rfl, e, _⟩ := hs.list p rfl; exact ⟨.base (.lst e), by decide⟩
  | tup xs => simp [tyS] at h; subst h; obtain ⟨a, vs, rfl, e, _⟩ := hs.tuple p; exact ⟨.base (.tup e), by decide⟩
  | cell n =>
    have h : (match S[n]? with
      | some (.lst _) => some "list"
      | some (.dct _ _) => some "dict"
      | _ => none) = some t := h
    cases q : S[n]? with
    | none => rw [q] at h; cases h
    | some c =>
      rw [q] at h
      cases c with
      | lst xs =>
        injection h with h
        subst h
        obtain ⟨a, vs, rfl, e, _⟩ := hs.list (d := .cell n) (ds := xs) p q
        exact ⟨.base (.lst e), by decide⟩
      | dct ks xs =>
        injection h with h
        subst h
        obtain ⟨rho, x⟩ := hs
        obtain ⟨a, ha, rfl⟩ := x.at_ p
        obtain ⟨vs, e, _⟩ := x.node n a _ ha q
        exact ⟨.base (.dK e), by decide⟩
      | _ => cases h
  | _ => simp [tyS] at h
theorem insC_ok [Tabl] (hs : SR H L S T) (p : L v d) {C : Addr} (h : insC S d = some C) (I : InsTy KF C) : TyX KF H v (.ref C) := by
  obtain ⟨rho, x⟩ := hs
  cases d with
  | ins D ns xs =>
    simp [insC] at h
    subst h
    have q := x.rd _ _ p
    simp only [RD] at q
    obtain ⟨a, dx, vs, rfl, _, e, _⟩ := q
    exact .base (.ins e I.cl I.ha I.hn I.htk I.hm)
  | cell n =>
    have h : (match S[n]? with
      | some (.ins C _ _) => some C
      | _ => none) = some C := h
    cases q : S[n]? with
    | none => rw [q] at h; cases h
    | some c =>
      rw [q] at h
      cases c with
      | ins D ns xs =>
        injection h with h
        subst h
        obtain ⟨a, ha, rfl⟩ := x.at_ p
        obtain ⟨dx, vs, e, _⟩ := x.node n a _ ha q
        exact .base (.ins e I.cl I.ha I.hn I.htk I.hm)
      | _ => cases h
  | _ => simp [insC] at h
theorem clsV_ok [Tabl] (hs : SR H L S T) (p : L v c) {u : Value} (h : clsV c = some u) : ClsV v u := by
  obtain ⟨rho, x⟩ := hs
  have q := x.rd _ _ p
  cases c with
  | raw w =>
    simp only [RD] at q
    subst q
    cases v with
    | ty n => simp [clsV] at h; subst h; exact .ty n
    | ref C => simp [clsV] at h; subst h; exact .own C
    | _ => simp [clsV] at h
  | _ => simp [clsV] at h
theorem isOne_ok [Tabl] (hs : SR H L S T) (p : L v d) {b : Bool} (h : isOne KF S d c b) : ∃ t u, TyX KF H v t ∧ clsV c = some u ∧ PySem.W.kitOne KF t u = some b := by
  unfold isOne at h
  split at h
  · rename_i t u e
    obtain ⟨h1, h2⟩ := tyS_ok (KF := KF) hs p e
    refine ⟨_, _, h1, rfl, ?_⟩
    rw [h.2]
    exact kit_ty (isB_ok h2 h.1)
  · rename_i t C e
    obtain ⟨h1, h2⟩ := tyS_ok (KF := KF) hs p e
    exact ⟨_, _, h1, rfl, h⟩
  · obtain ⟨C, u, h1, h2, h3, h4⟩ := h
    exact ⟨_, u, insC_ok hs p h1 h2, h3, h4⟩
  · exact h.elim
theorem isOne_ty [Tabl] (hs : SR H L S T) (p : L v d) : ∃ t, ∀ c b, isOne KF S d c b → TyX KF H v t ∧ ∃ u, clsV c = some u ∧ PySem.W.kitOne KF t u = some b := by
  cases e : tyS S d with
  | some t =>
    obtain ⟨h1, h2⟩ := tyS_ok (KF := KF) hs p e
    refine ⟨.type t, fun c b h => ⟨h1, ?_⟩⟩
    unfold isOne at h
    rw [e] at h
    split at h
    · rename_i t' u e'
      injection e' with e'
      subst e'
      refine ⟨_, rfl, ?_⟩
      rw [h.2]
      exact kit_ty (isB_ok h2 h.1)
    · rename_i t' C e'
      injection e' with e'
      subst e'
      exact ⟨_, rfl, h⟩
    · rename_i e'; cases e'
    · exact h.elim
  | none =>
    cases e2 : insC S d with
    | none =>
      refine ⟨.none, fun c b h => ?_⟩
      unfold isOne at h
      rw [e] at h
      obtain ⟨C, u, h1, _⟩ := h
      rw [e2] at h1
      cases h1
    | some C =>
      refine ⟨.ref C, fun c b h => ?_⟩
      unfold isOne at h
      rw [e] at h
      obtain ⟨C', u, h1, h2, h3, h4⟩ := h
      rw [e2] at h1
      injection h1 with h1
      subst h1
      exact ⟨insC_ok hs p e2 h2, u, h3, h4⟩
end
theorem clss_ok [Tabl] {KF : PySem.W.Frag} {H : Hp} {L : LL} {S : Store} {T : List (Addr × HO)} (hs : SR H L S T) : ∀ {cs : List Dat} {ws : List V}, Ls L ws cs → cs.all (fun c => (clsV c).isSome) = true → ∃ us, Paired ClsV ws us
  | [], [], _, _ => ⟨[], .nil⟩
  | c :: cs, w :: ws, q, ha => by
    rw [List.all_cons, Bool.and_eq_true] at ha
    obtain ⟨us, hus⟩ := clss_ok (KF := KF) hs q.2 ha.2
    obtain ⟨u, hu⟩ := Option.isSome_iff_exists.mp ha.1
    exact ⟨u :: us, .cons (clsV_ok hs q.1 hu) hus⟩
  | [], _ :: _, q, _ => q.elim
  | _ :: _, [], q, _ => q.elim
theorem isAny_ok [Tabl] {KF : PySem.W.Frag} {H : Hp} {L : LL} {S : Store} {T : List (Addr × HO)} {d : Dat} {t : Value} (hs : SR H L S T) (ht : ∀ c b, isOne KF S d c b → ∃ u, clsV c = some u ∧ PySem.W.kitOne KF t u = some b) :
    ∀ {cs : List Dat} {ws : List V} {b : Bool}, Ls L ws cs → cs.all (fun c => (clsV c).isSome) = true → isAny KF S d cs b → ∃ us, Paired ClsV ws us ∧ PySem.W.kitAny KF t us = some b
  | [], [], b, _, _, hb => ⟨[], .nil, by rw [show b = false from hb]; rfl⟩
  | c :: cs, w :: ws, b, q, ha, hb => by
    obtain ⟨k, hk, h1, h2⟩ := hb
    obtain ⟨u, hu, e⟩ := ht c k hk
    rw [List.all_cons, Bool.and_eq_true] at ha
    cases k with
    | true =>
      obtain ⟨us, hus⟩ := clss_ok (KF := KF) hs q.2 ha.2
      refine ⟨u :: us, .cons (clsV_ok hs q.1 hu) hus, ?_⟩
      rw [h1 rfl]
      exact kitAny_cons e (fun z => by cases z) (fun _ => rfl)
    | false =>
      obtain ⟨us, hus, eus⟩ := isAny_ok hs ht q.2 ha.2 (h2 rfl)
      exact ⟨u :: us, .cons (clsV_ok hs q.1 hu) hus, kitAny_cons e (fun _ => eus) (fun z => by cases z)⟩
  | [], _ :: _, _, q, _, _ => q.elim
  | _ :: _, [], _, q, _, _ => q.elim
def rIsiG (K : PySem.W.Frag) : List V → Hp → VK → Prop := fun xs H Q => rIsi K xs H Q ∨ rIsiT K xs H Q
theorem dcb_isi [Tabl] {X : Cx} : DCb X (.builtin "isinstance") (rIsiG X.K) (gIsi X.K) := ⟨CallR.or call_isi call_isiT, fun {xs ds L H S T K Q} hs p h hq => by
  unfold gIsi at h
  split at h
  · rename_i d c cs
    obtain ⟨v, w, rfl, pv, pw⟩ := p.two
    obtain ⟨hall, b, h1, h2⟩ := h
    obtain ⟨tp, ws, rfl, eT, s1, p1⟩ := hs.tuple pw
    obtain ⟨t, ht⟩ := isOne_ty (KF := X.K) hs pv
    obtain ⟨us, hus, eus⟩ := isAny_ok (KF := X.K) s1 (fun c b h => (ht c b h).2) p1 hall h1
    obtain ⟨k, hk, _⟩ := h1
    exact .inr ⟨v, tp, ws, t, us, b, rfl, eT, hus, (ht c k hk).1, eus, hq.flat hs (d := .bl _) rfl h2⟩
  · rename_i d c _
    obtain ⟨v, w, rfl, pv, pw⟩ := p.two
    obtain ⟨b, h1, h2⟩ := h
    obtain ⟨t, u, h3, h4, h5⟩ := isOne_ok hs pv h1
    exact .inl ⟨v, w, t, u, b, rfl, clsV_ok hs pw h4, h3, h5, hq.flat hs (d := .bl _) rfl h2⟩
  · exact h.elim⟩
/-! ### list, tuple, all, any, sorted -/
def gList (fin : List Dat → Store → KE → Prop) : GL := fun ds S K => match ds with
  | [d] => ∃ xs, seqD S d = some xs ∧ fin xs S K
  | _ => False
def gListT : GL := gList fun xs S K => K (.lst xs) S
def gListC : GL := gList fun xs S K => K (.cell S.length) (S ++ [.lst xs])
section
variable {X : Cx}
theorem dcb_list [Tabl] : DCb X (.type "list") (fun xs H Q => ∃ p ys, xs = [.ref p] ∧ (SqL X.K H p ys ∨ SqT X.K H p ys) ∧ ∀ l, H l = none → Q (.ref l) (upd H l (.lst ys))) gListT := ⟨call_list_of, fun {xs ds L H S T K Q} hs p h hq => by
  unfold gListT gList at h
  split at h
  · obtain ⟨v, rfl, pv⟩ := p.one
    obtain ⟨ys, e, h⟩ := h
    obtain ⟨a, vs, rfl, h1, s1, p1⟩ := hs.seq (KF := X.K) pv e
    exact ⟨a, vs, rfl, h1, fun l hl => hq _ _ _ _ S (LaddL.le.trans Ladd.le) Ladd.here (s1.lst hl p1) h⟩
  · exact h.elim⟩
theorem dcb_listC [Tabl] : DCb X (.type "list") (fun xs H Q => ∃ p ys, xs = [.ref p] ∧ (SqL X.K H p ys ∨ SqT X.K H p ys) ∧ ∀ l, H l = none → Q (.ref l) (upd H l (.lst ys))) gListC := ⟨call_list_of, fun {xs ds L H S T K Q} hs p h hq => by
  unfold gListC gList at h
  split at h
  · obtain ⟨v, rfl, pv⟩ := p.one
    obtain ⟨ys, e, h⟩ := h
    obtain ⟨a, vs, rfl, h1, s1, p1⟩ := hs.seq (KF := X.K) pv e
    exact ⟨a, vs, rfl, h1, fun l hl => hq _ _ _ _ _ (LaddL.le.trans Ladd.le) Ladd.here (s1.cell (d := .lst ys) hl rfl p1) h⟩
  · exact h.elim⟩
def gTupleC : GL := fun ds S K => match ds with
  | [d] => ∃ xs, seqD S d = some xs ∧ K (.tup xs) S
  | _ => False
theorem dcb_tuple [Tabl] : DCb X (.type "tuple") (fun xs H Q => ∃ p ys, xs = [.ref p] ∧ ((SqL X.K H p ys ∧ ∀ l, H l = none → Q (.ref l) (upd H l (.tup ys))) ∨ (SqT X.K H p ys ∧ Q (.ref p) H))) gTupleC := ⟨call_tuple_of, fun {xs ds L H S T K Q} hs p h hq => by
  unfold gTupleC at h
  split at h
  · rename_i d
    obtain ⟨v, rfl, pv⟩ := p.one
    obtain ⟨ys, e, h⟩ := h
    have lst : view S d = some (.lst ys) → _ := fun e' => (hs.list pv e')
    cases d with
    | tup zs =>
      simp [seqD] at e
      subst e
      obtain ⟨a, vs, rfl, e1, s1, p1⟩ := hs.tuple pv
      exact ⟨a, vs, rfl, .inr ⟨.of e1, hq _ _ _ _ S (.refl _) pv hs h⟩⟩
    | lst zs =>
      simp [seqD] at e
      subst e
      obtain ⟨a, vs, rfl, e1, s1, p1⟩ := hs.list pv rfl
      exact ⟨a, vs, rfl, .inl ⟨.of e1, fun l hl => hq _ _ _ _ S (LaddL.le.trans Ladd.le) Ladd.here (s1.tup hl p1) h⟩⟩
    | cell n =>
      have e' : (match S[n]? with
        | some (.lst xs) => some xs
        | _ => none) = some ys := e
      cases q : S[n]? with
      | none => rw [q] at e'; cases e'
      | some c =>
        rw [q] at e'
        cases c with
        | lst zs =>
          injection e' with e'
          subst e'
          obtain ⟨a, vs, rfl, e1, s1, p1⟩ := hs.list (d := .cell n) (ds := zs) pv q
          exact ⟨a, vs, rfl, .inl ⟨.of e1, fun l hl => hq _ _ _ _ S (LaddL.le.trans Ladd.le) Ladd.here (s1.tup hl p1) h⟩⟩
        | _ => cases e'
    | _ => simp [seqD] at e
  · exact h.elim⟩
/-- a list's items, as a list -/
def lstD (S : Store) (d : Dat) : Option (List Dat) := match view S d with
  | some (.lst xs) => some xs
  | _ => none
theorem lstD_view {S : Store} {d : Dat} {xs : List Dat} (h : lstD S d = some xs) : view S d = some (.lst xs) := by
  unfold lstD at h
  split at h
  · rename_i e
    injection h with h
    rw [e, h]
  · cases h
def gBools (f : List Bool → Bool) : GL := fun ds S K => match ds with
  | [d] => ∃ bs : List Bool, lstD S d = some (bs.map Dat.bl) ∧ K (.bl (f bs)) S
  | _ => False
theorem dcb_all [Tabl] (hc : X.calm = true) : DCb X (.builtin "all") (rAll X.K) (gBools fun bs => bs.all id) := ⟨cr_all hc, fun {xs ds L H S T K Q} hs p h hq => by
  unfold gBools at h
  split at h
  · obtain ⟨v, rfl, pv⟩ := p.one
    obtain ⟨bs, e, h⟩ := h
    obtain ⟨a, vs, rfl, h1, s1, p1⟩ := hs.list pv (lstD_view e)
    rw [p1.bls s1] at h1
    exact ⟨a, bs, rfl, .of h1, hq.flat hs (d := .bl _) rfl h⟩
  · exact h.elim⟩
theorem dcb_any [Tabl] (hc : X.calm = true) : DCb X (.builtin "any") (rAny X.K) (gBools fun bs => bs.any id) := ⟨cr_any hc, fun {xs ds L H S T K Q} hs p h hq => by
  unfold gBools at h
  split at h
  · obtain ⟨v, rfl, pv⟩ := p.one
    obtain ⟨bs, e, h⟩ := h
    obtain ⟨a, vs, rfl, h1, s1, p1⟩ := hs.list pv (lstD_view e)
    rw [p1.bls s1] at h1
    exact ⟨a, bs, rfl, .of h1, hq.flat hs (d := .bl _) rfl h⟩
  · exact h.elim⟩
/-- sorted(texts) -/
def gSortedS (fin : List Dat → Store → KE → Prop) : GL := fun ds S K => match ds with
  | [d] => ∃ xs : List Str, lstD S d = some (xs.map Dat.str) ∧ xs.length < 64 ∧ ∀ ys : List Str, ys.Perm xs → PyProof.Rows.sortedS ys = true → fin (ys.map Dat.str) S K
  | _ => False
end
/-! ### methods of built-in types -/
structure DMt [Tabl] (X : Cx) (id : String) (r : V → List V → Hp → VK → Prop) (g : GM) : Prop where
  run : MtR X id r
  imp : MtI r g
/-- of the type T -/
def isT (T : String) (S : Store) (d : Dat) : Prop := match d with
  | .str _ => T = "str"
  | d => T = "list" ∧ (lstD S d).isSome = true
theorem isT_ok [Tabl] {T : String} {S : Store} {d : Dat} {H : Hp} {L : LL} {P : List (Addr × HO)} {v : V} {KF : PySem.W.Frag} (hs : SR H L S P) (p : L v d) (h : isT T S d) : tyV KF T v H := by
  unfold isT at h
  split at h
  · rw [hs.vstr p]; exact h
  · obtain ⟨h1, h2⟩ := h
    obtain ⟨xs, e⟩ := Option.isSome_iff_exists.mp h2
    obtain ⟨a, vs, rfl, e1, _⟩ := hs.list p (lstD_view e)
    exact .inl ⟨h1, vs, .of e1⟩
def uBM0 (T : String) (g : GM) (uo : UE) : UE := fun dl S K X => uo dl S (fun d S1 => isT T S1 d ∧ g d [] S1 K) X
def uBM (T : String) (g : GM) (uo : UE) (ua : UA) : UE := fun dl S K X => uo dl S (fun d S1 => isT T S1 d ∧ ua dl S1 (fun xs S2 => g d xs S2 K) X) X
section
variable {X : Cx} {W : WX} {o e : Expr} {es : List Expr} {to : TE} {uo : UE} {t : TA} {u : UA} {name : Str} {apos cpos : Pos} {T id : String} {r : V → List V → Hp → VK → Prop} {g : GM}
theorem de_bm [Tabl] (pa : PlainAttrs T) (slot : Slot T name id) (hty : typeOf (.builtin id) = pure (.type "method_descriptor")) (hm : DMt X id r g) (ho : DE X W o to uo) (ha : DA X W (e :: es) t u)
    (hbase : attributeBase o name X.env (eval o X.env) = eval o X.env := by rfl)
    (hfew : ((backTo cpos (starEach (e :: es) X.env)).all (fun x => !x.1) && (backToKw cpos (keywordEach [] X.env)).all (fun x => x.1.isSome)
      && decide ((e :: es).length + ([] : List Keyword).length + (if ([] : List Keyword).isEmpty then 0 else 1) < 30)) = true := by rfl)
    (hline : (apos.endLine == cpos.line) = true := by rfl) (hs : starEach (e :: es) X.env = (false, eval e X.env) :: starEach es X.env := by rfl) (hplain : (backTo cpos (starEach es X.env)).any (·.1) = false := by rfl) :
    DE X W (.Call (.Attribute o name apos) (e :: es) [] cpos) (tBM X.K T r to t) (uBM T g uo u) :=
  ⟨pe_bm pa slot hty hm.run ho.run ha.run hbase hfew hline hs hplain, fun {sg dl L H S P K X' Q} he hs h hq hx => ho.imp he hs h (fun v d L1 H1 S1 l1 p1 s1 h1 => ⟨isT_ok s1 p1 h1.1, ha.imp (he.le l1) s1 h1.2 (fun vs ds L2 H2 S2 l2 p2 s2 h2 => hm.imp s2 (l2 _ _ p1) p2 h2 (hq.le (l1.trans l2))) (hx.le l1)⟩) hx⟩
end
def gAppend : GM := fun d ds S K => match d, ds with
  | .cell n, [y] => ∃ xs, S[n]? = some (.lst xs) ∧ xs.length < sizeLine ∧ K .non (S.set n (.lst (xs ++ [y])))
  | _, _ => False
theorem dmt_append [Tabl] {X : Cx} : DMt X "list.append" rAppend gAppend := ⟨mt_append, fun {x dx xs ds L H S T K Q} hs p ps h hq => by
  unfold gAppend at h
  split at h
  · rename_i n y
    obtain ⟨v, rfl, pv⟩ := ps.one
    obtain ⟨zs, e, hl, h⟩ := h
    obtain ⟨a, vs, rfl, e1, s1, p1⟩ := hs.list (d := .cell n) p e
    have s2 := s1.set (a := a) (n := n) (o := .lst (vs ++ [v])) (d := .lst (zs ++ [y])) (LaddL.le _ _ p) rfl (p1.append ⟨LaddL.le _ _ pv, True.intro⟩)
    exact ⟨a, vs, v, rfl, rfl, e1, by rw [p1.length]; exact hl, hq.le LaddL.le |>.flat s2 (d := .non) rfl h⟩
  · exact h.elim⟩
def gJoin : GM := fun d ds S K => match d, ds with
  | .str a, [y] => ∃ ys : List Str, seqD S y = some (ys.map Dat.str) ∧ (ys.map (·.length)).sum + ys.length * a.length ≤ 16777216 ∧ K (.str (Txt.join a ys)) S
  | _, _ => False
theorem dmt_join [Tabl] {X : Cx} : DMt X "str.join" (fun x xs H Q => ∃ a p, ∃ ys : List Str, x = .str a ∧ xs = [.ref p] ∧ (SqL X.K H p (ys.map V.str) ∨ SqT X.K H p (ys.map V.str)) ∧
    (ys.map (·.length)).sum + ys.length * a.length ≤ 16777216 ∧ Q (.str (Txt.join a ys)) H) gJoin := ⟨mt_join, fun {x dx xs ds L H S T K Q} hs p ps h hq => by
  unfold gJoin at h
  split at h
  · obtain ⟨v, rfl, pv⟩ := ps.one
    obtain ⟨ys, e, hl, h⟩ := h
    obtain ⟨a, vs, rfl, h1, s1, p1⟩ := hs.seq (KF := X.K) pv e
    rw [p1.strs s1] at h1
    exact ⟨_, a, ys, hs.vstr p, rfl, h1, hl, hq.flat hs (d := .str _) rfl h⟩
  · exact h.elim⟩
/-! ### o[i] = v -/
abbrev GS := Dat → Dat → Dat → Store → (Store → Prop) → Prop
def SetI [Tabl] (t : TSet) (g : GS) : Prop := ∀ {o i v do' di dv L H S T K} {Q : Hp → Prop}, SR H L S T → L o do' → L i di → L v dv → g do' di dv S K → (∀ L' H' S', Lle L L' → SR H' L' S' T → K S' → Q H') → t o i v H Q
def uGSub (uo ui : UE) (g : GS) : UG := fun d dl S K X => uo dl S (fun o S1 => ui dl S1 (fun i S2 => g o i d S2 fun S3 => K dl S3) X) X
theorem dg_sub [Tabl] {X : Cx} {W : WX} {o i : Expr} {to ti : TE} {uo ui : UE} {t : TSet} {g : GS} {pos : Pos} (ho : DE X W o to uo) (hi : DE X W i ti ui) (hs : PSet X t) (hg : SetI t g)
    (ha : ∀ v, assign (.Subscript o i pos) X.env v = (do
      let ov ← holding [v] (eval o X.env)
      let iv ← holding [v, ov] (eval i X.env)
      standAt pos
      holding [v, ov, iv] (setItem ov iv v)
      release [v, ov, iv] []) := by intro _; rfl) : DG X W (.Subscript o i pos) (gSub to ti t) (uGSub uo ui g) [] :=
  ⟨pg_sub ho.run hi.run hs ha, fun {sg dl L H S T v d K X' Q} he hs p h hk hx => ho.imp he hs h (fun ov od L1 H1 S1 l1 p1 s1 h1 => hi.imp (he.le l1) s1 h1 (fun iv id L2 H2 S2 l2 p2 s2 h2 => hg s2 (l2 _ _ p1) p2 (l2 _ _ (l1 _ _ p)) h2 fun L' H' S' l' s' k' =>
    hk sg dl L' H' S' ((l1.trans l2).trans l') rfl (fun _ _ => rfl) (he.le ((l1.trans l2).trans l')) s' k') (hx.le l1)) hx⟩
def gSetL : GS := fun o i v S K => match o, i with
  | .cell n, .int k => ∃ xs j, S[n]? = some (.lst xs) ∧ ixN xs.length k = some j ∧ K (S.set n (.lst (xs.set j v)))
  | _, _ => False
theorem Ls.set {L : LL} {v : V} {d : Dat} (p : L v d) : ∀ {vs : List V} {ds : List Dat} (j : Nat), Ls L vs ds → Ls L (vs.set j v) (ds.set j d)
  | [], [], _, _ => True.intro
  | _ :: _, _ :: _, 0, h => ⟨p, h.2⟩
  | _ :: _, _ :: _, j + 1, h => ⟨h.1, Ls.set p j h.2⟩
  | [], _ :: _, _, h => h.elim
  | _ :: _, [], _, h => h.elim
theorem set_imp [Tabl] : SetI rSetL gSetL := fun {o i v do' di dv L H S T K Q} hs po pi pv h hq => by
  unfold gSetL at h
  split at h
  · rename_i n k
    obtain ⟨xs, j, e, hj, h⟩ := h
    obtain ⟨a, vs, rfl, e1, s1, p1⟩ := hs.list (d := .cell n) po e
    have s2 := s1.set (a := a) (n := n) (o := .lst (vs.set j v)) (d := .lst (xs.set j dv)) (LaddL.le _ _ po) rfl (p1.set (LaddL.le _ _ pv) j)
    exact ⟨a, vs, k, j, rfl, hs.vint pi, e1, by rw [p1.length]; exact hj, hq _ _ _ LaddL.le s2 h⟩
  · exact h.elim
end DL
/-! DL7: what is walked: a list, a tuple, a text; a range; zip of two of these; enumerate. -/
namespace DL
open PySem PySem.Spec PyProof.Rows L2
/-- what may be drawn from -/
inductive Sk where
  | l (a : Addr) | t (a : Addr) | s (x : Str) (k : Tok)
def Sk.val : Sk → Value
  | .l a => .ref a | .t a => .ref a | .s x k => .str x k
def Sk.src : Sk → List Addr
  | .l a => [a] | .t a => [a] | .s _ _ => []
def signs (x : Str) : List V := x.cps.toList.map fun c => .str (⟨#[c]⟩ : Str)
def Sk.vals (K : PySem.W.Frag) (H : Hp) : Sk → List V → Prop
  | .l a, xs => SqL K H a xs
  | .t a, xs => SqT K H a xs
  | .s x _, xs => xs = signs x
def Sk.at_ (it : Addr) (i : Nat) (h : Heap) : Sk → Prop
  | .l a => h.IsListIter it a i
  | .t a => h.IsTupleIter it a i
  | .s x k => h.IsStrIter it (strIterType x) x k i
def Sk.ob : Sk → Obj
  | .l a => { cls := .type "list_iterator", data := .fields #[.ref a, .int 0 0] }
  | .t a => { cls := .type "tuple_iterator", data := .fields #[.ref a, .int 0 0] }
  | .s x k => { cls := .type (strIterType x), data := .fields #[.str x k, .int 0 0] }
section
variable {X : Cx} {pins : List (Addr × Obj)} {sg : L2.St} {H : Hp} {s : Shared}
theorem Sk.inj (I : Inv X pins sg H s) {k : Sk} {xs ys : List V} (h : k.vals X.K H xs) (h' : k.vals X.K H ys) : xs = ys := by
  cases k with
  | l a => exact I.list_inj h h'
  | t a => exact I.tuple_inj h h'
  | s x t => exact (show xs = signs x from h).trans (show ys = signs x from h').symm
theorem Sk.get? (it : Addr) (i : Nat) (h : Heap) {k : Sk} (st : k.at_ it i h) : ∃ o, h.get? it = some o ∧ ∀ v, o.data ≠ .cell v := by
  cases k with
  | l a => obtain ⟨o, e, _, d⟩ := st; exact ⟨o, e, fun v q => by rw [d] at q; cases q⟩
  | t a => obtain ⟨o, e, _, d⟩ := st; exact ⟨o, e, fun v q => by rw [d] at q; cases q⟩
  | s x t => obtain ⟨o, e, _, d⟩ := st; exact ⟨o, e, fun v q => by rw [d] at q; cases q⟩
theorem Sk.keep {it : Addr} {i : Nat} {h h' : Heap} {k : Sk} (st : k.at_ it i h) (hk : ∀ o, h.get? it = some o → h'.get? it = some o) : k.at_ it i h' := by
  cases k with
  | l a => exact Heap.IsListIter.at st hk
  | t a => exact Heap.IsTupleIter.at st hk
  | s x t => obtain ⟨o, e, r⟩ := st; exact ⟨o, hk o e, r⟩
/-- a source as the library draws from it -/
theorem Sk.draws {prog : Program} {w : World} {A : Around} (hh : A.handled = none) (I : Inv X pins sg H s) (k : Sk) {xs : List V} (hv : k.vals X.K H xs) (it : Addr) (hne : ∀ a ∈ k.src, a ≠ it) :
    ∃ (P : Nat → Value → Prop) (St : Nat → Heap → Prop), Draws prog w A it (it :: k.src) xs.length P St ∧ (∀ i, k.at_ it i s.heap → St i s.heap) ∧ (∀ i h, St i h → k.at_ it i h) ∧ ∀ i u, P i u → ∃ v, xs[i]? = some v ∧ RelV v u := by
  cases k with
  | l a =>
    obtain ⟨its, rv, p, _⟩ := I.list hv
    have D := Draws.list (prog := prog) (w := w) hh it a (hne a (List.mem_singleton.mpr rfl)) its.toArray
    rw [show its.toArray.size = xs.length by simp [rv.length]] at D
    refine ⟨_, _, D, fun i st => ⟨st, p.isList⟩, fun i h st => st.1, fun i u e => ?_⟩
    have e' : its[i]? = some u := by simpa using e
    cases q : xs[i]? with
    | none => rw [rv.none_of q] at e'; cases e'
    | some v =>
      obtain ⟨u', h1, h2⟩ := rv.get q
      rw [e'] at h1
      injection h1 with h1
      subst h1
      exact ⟨v, rfl, h2⟩
  | t a =>
    obtain ⟨its, rv, p, _⟩ := I.tuple hv
    have D := Draws.tuple (prog := prog) (w := w) hh it a (hne a (List.mem_singleton.mpr rfl)) its.toArray
    rw [show its.toArray.size = xs.length by simp [rv.length]] at D
    refine ⟨_, _, D, fun i st => ⟨st, p⟩, fun i h st => st.1, fun i u e => ?_⟩
    have e' : its[i]? = some u := by simpa using e
    cases q : xs[i]? with
    | none => rw [rv.none_of q] at e'; cases e'
    | some v =>
      obtain ⟨u', h1, h2⟩ := rv.get q
      rw [e'] at h1
      injection h1 with h1
      subst h1
      exact ⟨v, rfl, h2⟩
  | s x t =>
    have D := Draws.text (prog := prog) (w := w) hh it x t
    have hv' : xs = signs x := hv
    rw [show x.cps.size = xs.length by rw [hv']; simp [signs]] at D
    refine ⟨_, _, D, fun i st => st, fun i h st => st, fun i u e => ?_⟩
    obtain ⟨c, tk, h1, rfl⟩ := e
    refine ⟨.str ⟨#[c]⟩, ?_, ⟨tk, rfl⟩⟩
    rw [hv']
    simp only [signs, List.getElem?_map]
    rw [show x.cps.toList[i]? = some c by simpa using h1]
    rfl
theorem Sk.begins (I : Inv X pins sg H s) (k : Sk) {xs : List V} (hv : k.vals X.K H xs) : ∃ HB : Heap → Prop, Begins k.val k.ob HB ∧ HB s.heap ∧ ∀ a ∈ k.src, a < s.heap.objs.size := by
  cases k with
  | l a =>
    obtain ⟨its, rv, p, _⟩ := I.list hv
    obtain ⟨o, n, e, _⟩ := id p
    exact ⟨_, begins_list a its.toArray, p.isList, fun b hb => by rw [List.mem_singleton.mp hb]; exact Heap.lt_size e⟩
  | t a =>
    obtain ⟨its, rv, p, _⟩ := I.tuple hv
    obtain ⟨o, e, _⟩ := id p
    exact ⟨_, begins_tuple a its.toArray, p, fun b hb => by rw [List.mem_singleton.mp hb]; exact Heap.lt_size e⟩
  | s x t => exact ⟨_, begins_text x t, True.intro, fun b hb => nomatch hb⟩
theorem Sk.fresh {it : Addr} {h : Heap} (k : Sk) (e : h.get? it = some k.ob) : k.at_ it 0 h := by
  cases k with
  | l a => exact ⟨_, e, rfl, rfl⟩
  | t a => exact ⟨_, e, rfl, rfl⟩
  | s x t => exact ⟨_, e, rfl, rfl⟩
end
/-- pairs, drawn from two -/
def ItZ (K : PySem.W.Frag) (k1 k2 : Sk) : It :=
  ⟨fun i H => ∃ (xs ys : List V) (x y : V), k1.vals K H xs ∧ k2.vals K H ys ∧ xs[i]? = some x ∧ ys[i]? = some y,
    fun i H v H' => ∃ T x y, v = .ref T ∧ H T = none ∧ H' = upd H T (.tup [x, y]) ∧ (∀ xs, k1.vals K H xs → xs[i]? = some x) ∧ ∀ ys, k2.vals K H ys → ys[i]? = some y,
    fun i H => ∃ xs ys : List V, k1.vals K H xs ∧ k2.vals K H ys ∧ i = min xs.length ys.length⟩
theorem turn_z {P : Program} {w : World} {K : PySem.W.Frag} {elts : List Expr} {kk : Nat} {tpos : Pos} {k1 k2 : Sk} {z TI TO i1 i2 : Addr} (D : ZipSep2 z TI TO i1 i2 (i1 :: k1.src) (i2 :: k2.src)) (n1 : ∀ a ∈ k1.src, a ≠ i1) (n2 : ∀ a ∈ k2.src, a ≠ i2) :
    Turn P w K (.Tuple elts kk tpos) (ItZ K k1 k2) [z, TI, TO, i1, i2] z (fun i h => IsZip h z TI TO .none ∧ IsTupOf2 h TI (.ref i1) (.ref i2) ∧ (∃ x y, IsTupOf2 h TO x y) ∧ k1.at_ i1 i h ∧ k2.at_ i2 i h) where
  mem := by simp
  obj := fun i h st c hc => by
    obtain ⟨hz, hTI, ⟨x, y, hTO⟩, h1, h2⟩ := st
    have e' : c = z ∨ c = TI ∨ c = TO ∨ c = i1 ∨ c = i2 := by simpa using hc
    rcases e' with q | q | q | q | q
    · rw [q]; exact ⟨_, hz, fun v q => nomatch q⟩
    · rw [q]; exact ⟨_, hTI, fun v q => nomatch q⟩
    · rw [q]; exact ⟨_, hTO, fun v q => nomatch q⟩
    · rw [q]; exact Sk.get? i1 i h h1
    · rw [q]; exact Sk.get? i2 i h h2
  keep := fun i h h' st k => by
    obtain ⟨hz, hTI, ⟨x, y, hTO⟩, h1, h2⟩ := st
    exact ⟨k z (by simp) _ hz, k TI (by simp) _ hTI, ⟨x, y, k TO (by simp) _ hTO⟩, Sk.keep h1 fun o q => k i1 (by simp) o q, Sk.keep h2 fun o q => k i2 (by simp) o q⟩
  item := by
    intro X hP hw hK hc i pins s sg H E I hf st hg
    subst hP hw hK
    obtain ⟨hz, hTI, ⟨x0, y0, hTO⟩, h1, h2⟩ := st
    obtain ⟨xs, ys, x, y, hqx, hqy, hx, hy⟩ := hg
    have hin : (X.A.in1).handled = none := I.ok.hd hc
    obtain ⟨P1, S1, D1, a1, b1, c1⟩ := k1.draws (prog := X.prog) (w := X.w) (A := X.A.in1) hin I hqx i1 n1
    obtain ⟨P2, S2, D2, a2, b2, c2⟩ := k2.draws (prog := X.prog) (w := X.w) (A := X.A.in1) hin I hqy i2 n2
    have lx : i < xs.length := (List.getElem?_eq_some_iff.mp hx).1
    have ly : i < ys.length := (List.getElem?_eq_some_iff.mp hy).1
    refine (GoesN.zip2 (elts := elts) (x1 := kk) (pos := tpos) (prog := X.prog) (w := X.w) (A := X.A) D D1 D2).goes i s _ E (by omega) ⟨hz, hTI, ⟨x0, y0, hTO⟩, a1 i h1, a2 i h2⟩ fun v h' tk hY hSt hk _ => ?_
    obtain ⟨T, u, u2, rfl, hT, p1, p2, ht⟩ := hY
    obtain ⟨x', e1, r1⟩ := c1 i u p1
    obtain ⟨y', e2, r2⟩ := c2 i u2 p2
    rw [hx] at e1
    rw [hy] at e2
    injection e1 with e1
    injection e2 with e2
    subst e1
    subst e2
    obtain ⟨z', TI', TO', s1', s2'⟩ := hSt
    have new : ObjOk X.prog X.w (upd H T (.tup [x, y])) h' T (.tup [x, y]) := ⟨by show 2 ≤ sizeLine; decide, [u, u2], .cons r1 (.cons r2 .nil), ht⟩
    have I1 : Inv X pins sg (upd H T (.tup [x, y])) { s with heap := h', toks := tk } :=
      I.turnedNew (t' := tk) (ch := [z, TI, TO, i1, i2]) (fun c o hb q => hk c o (fun m => hb (by
        simp only [List.mem_cons, List.not_mem_nil, or_false] at m ⊢
        rcases m with m | m | m | m
        · exact .inl m
        · exact .inr (.inr (.inl m))
        · exact .inr (.inr (.inr (.inl m)))
        · exact .inr (.inr (.inr (.inr m))))) q) hf hT new
    refine ⟨.ref T, _, I1, rfl, ⟨T, x, y, rfl, I.hok.fresh hT, rfl, fun l hl => by rw [Sk.inj I hl hqx]; exact hx, fun l hl => by rw [Sk.inj I hl hqy]; exact hy⟩, ⟨z', TI', TO', b1 _ _ s1', b2 _ _ s2'⟩, fun c hcm => ?_⟩
    have hlt : c < s.heap.objs.size := by
      have e' : c = z ∨ c = TI ∨ c = TO ∨ c = i1 ∨ c = i2 := by simpa using hcm
      rcases e' with q | q | q | q | q
      · rw [q]; exact Heap.lt_size hz
      · rw [q]; exact Heap.lt_size hTI
      · rw [q]; exact Heap.lt_size hTO
      · rw [q]; obtain ⟨_, e, _⟩ := Sk.get? i1 i _ h1; exact Heap.lt_size e
      · rw [q]; obtain ⟨_, e, _⟩ := Sk.get? i2 i _ h2; exact Heap.lt_size e
    rw [upd_ne (Nat.ne_of_lt (Nat.lt_of_lt_of_le hlt hT))]
    exact (hf c hcm).1
  done := by
    intro X hP hw hK hc i pins s sg H E I hf st hg
    subst hP hw hK
    obtain ⟨hz, hTI, ⟨x0, y0, hTO⟩, h1, h2⟩ := st
    obtain ⟨xs, ys, hqx, hqy, he⟩ := hg
    have hin : (X.A.in1).handled = none := I.ok.hd hc
    obtain ⟨P1, S1, D1, a1, b1, c1⟩ := k1.draws (prog := X.prog) (w := X.w) (A := X.A.in1) hin I hqx i1 n1
    obtain ⟨P2, S2, D2, a2, b2, c2⟩ := k2.draws (prog := X.prog) (w := X.w) (A := X.A.in1) hin I hqy i2 n2
    subst he
    refine (GoesN.zip2 (elts := elts) (x1 := kk) (pos := tpos) (prog := X.prog) (w := X.w) (A := X.A) D D1 D2).stops s (fun s' => Inv X pins sg H s') E ⟨hz, hTI, ⟨x0, y0, hTO⟩, a1 _ h1, a2 _ h2⟩ fun h' tk hk _ => ?_
    exact I.turnedL (t' := tk) (ch := [z, TI, TO, i1, i2]) (fun c o hb q => hk c o (fun m => hb (by
        simp only [List.mem_cons, List.not_mem_nil, or_false] at m ⊢
        rcases m with m | m | m | m
        · exact .inl m
        · exact .inr (.inr (.inl m))
        · exact .inr (.inr (.inr (.inl m)))
        · exact .inr (.inr (.inr (.inr m))))) q) hf
  self := fun A i s Q E st h => wpAny_pyIter_zip st.1 h
def iZ (K : PySem.W.Frag) (ta : TA) : TI := fun sg H R => ta sg H fun vs H1 => ∃ v1 v2, vs = [v1, v2] ∧ ∀ u1 u2, RelV v1 u1 → RelV v2 u2 → ∃ k1 k2 xs ys, Sk.val k1 = u1 ∧ Sk.val k2 = u2 ∧ k1.vals K H1 xs ∧ k2.vals K H1 ys ∧ R (ItZ K k1 k2) H1
theorem pi_z {X : Cx} {e e2 : Expr} {ta : TA} {p pos tpos : Pos} {elts : List Expr} {kk : Nat} (hg : Gl X "zip") (hm : X.mg "zip" = none) (ha : PA X [e, e2] ta)
    (hs : starEach [e, e2] X.env = (false, eval e X.env) :: starEach [e2] X.env := by rfl) (hpl : (backTo pos (starEach [e2] X.env)).any (·.1) = false := by rfl) :
    PI X (.Tuple elts kk tpos) (.Call (.Name "zip" p) [e, e2] [] pos) (iZ X.K ta) := by
  refine ⟨fun pins s sg H R I h => ?_⟩
  refine Call_ (ld_blt I hg hm PyProof.Rows.boot_zip (PyProof.Rows.callWith_type1 (thn (ha.run pos pins s sg H _ I h) fun us s1 ⟨vs, H1, I1, r1, q1⟩ => ?_) hs hpl))
  obtain ⟨v1, v2, ex, q1⟩ := q1
  subst ex
  obtain ⟨u1, u2, rfl, ru1, ru2⟩ := vals2 r1
  obtain ⟨k1, k2, xs, ys, rfl, rfl, hx, hy, q⟩ := q1 u1 u2 ru1 ru2
  obtain ⟨B1, b1, hb1, l1⟩ := k1.begins I1 hx
  obtain ⟨B2, b2, hb2, l2⟩ := k2.begins I1 hy
  refine zip_begins2 b1 b2 hb1 hb2 fun h' hz hTI hTO h1 h2 hsz hk => wpAny_pyIter_zip hz ?_
  have I2 : Inv X pins sg H1 { s1 with heap := h' } := I1.kept (t' := s1.toks) hk
  refine ⟨s1.heap.objs.size + 4, [s1.heap.objs.size + 4, s1.heap.objs.size + 2, s1.heap.objs.size + 3, s1.heap.objs.size, s1.heap.objs.size + 1], _, _, H1, rfl, I2,
    turn_z (k1 := k1) (k2 := k2) (zip_sep2 l1 l2) (fun a ha => Nat.ne_of_lt (l1 a ha)) (fun a ha => Nat.ne_of_lt (Nat.lt_succ_of_lt (l2 a ha))), ⟨hz, hTI, ⟨_, _, hTO⟩, Sk.fresh k1 h1, Sk.fresh k2 h2⟩, fun c hcm => ?_, q⟩
  have e' : c = s1.heap.objs.size + 4 ∨ c = s1.heap.objs.size + 2 ∨ c = s1.heap.objs.size + 3 ∨ c = s1.heap.objs.size ∨ c = s1.heap.objs.size + 1 := by simpa using hcm
  have hle : s1.heap.objs.size ≤ c := by
    rcases e' with z | z | z | z | z
    · rw [z]; exact Nat.le_add_right _ _
    · rw [z]; exact Nat.le_add_right _ _
    · rw [z]; exact Nat.le_add_right _ _
    · rw [z]; exact Nat.le_refl _
    · rw [z]; exact Nat.le_add_right _ _
  exact I1.fpOk hle (I1.hok.fresh hle)
/-! ### over data -/
/-- what is drawn, from a list, a tuple, a text -/
def drawD (S : Store) : Dat → Option (List Dat)
  | .str z => some (z.cps.toList.map fun c => .str (sgn c))
  | d => seqD S d
section
variable {H : Hp} {L : LL} {S : Store} {T : List (Addr × HO)} {KF : PySem.W.Frag}
theorem Ls.signs [Tabl] (hs : SR H L S T) (z : Str) : ∃ L', Lle L L' ∧ Ls L' (DL.signs z) (z.cps.toList.map fun c => .str (sgn c)) ∧ SR H L' S T := hs.flats (by
  unfold DL.signs
  generalize z.cps.toList = cs
  induction cs with
  | nil => trivial
  | cons c cs ih => exact ⟨rfl, ih⟩)
def isTup : Dat → Bool
  | .tup _ => true
  | _ => false
theorem SR.seqK [Tabl] (hs : SR H L S T) {v : V} {d : Dat} {ds : List Dat} (p : L v d) (e : seqD S d = some ds) :
    ∃ a vs, v = .ref a ∧ ((isTup d = true ∧ H a = some (.tup vs)) ∨ (isTup d = false ∧ H a = some (.lst vs))) ∧ SR H (LaddL L vs ds) S T ∧ Ls (LaddL L vs ds) vs ds := by
  cases d with
  | tup xs => simp [seqD] at e; subst e; obtain ⟨a, vs, h1, h2, h3⟩ := hs.tuple p; exact ⟨a, vs, h1, .inl ⟨rfl, h2⟩, h3⟩
  | lst xs => simp [seqD] at e; subst e; obtain ⟨a, vs, h1, h2, h3⟩ := hs.list p rfl; exact ⟨a, vs, h1, .inr ⟨rfl, h2⟩, h3⟩
  | cell n =>
    have e : (match S[n]? with
      | some (.lst xs) => some xs
      | _ => none) = some ds := e
    cases q : S[n]? with
    | none => rw [q] at e; cases e
    | some c =>
      rw [q] at e
      cases c with
      | lst xs =>
        injection e with e
        subst e
        obtain ⟨a, vs, h1, h2, h3⟩ := hs.list p (ds := xs) q
        exact ⟨a, vs, h1, .inr ⟨rfl, h2⟩, h3⟩
      | _ => cases e
  | _ => simp [seqD] at e
theorem sk_of [Tabl] (hs : SR H L S T) {v : V} {d : Dat} {xs : List Dat} (p : L v d) (e : drawD S d = some xs) {u : Value} (r : RelV v u) : ∃ k : Sk, k.val = u ∧
    ∀ H2 L2 S2 T2, Lle L L2 → SR H2 L2 S2 T2 → drawD S2 d = some xs → ∃ vs L3, k.vals KF H2 vs ∧ Lle L2 L3 ∧ Ls L3 vs xs ∧ SR H2 L3 S2 T2 := by
  have sq : seqD S d = some xs → (∀ S2, drawD S2 d = seqD S2 d) → (∃ k : Sk, k.val = u ∧
      ∀ H2 L2 S2 T2, Lle L L2 → SR H2 L2 S2 T2 → drawD S2 d = some xs → ∃ vs L3, k.vals KF H2 vs ∧ Lle L2 L3 ∧ Ls L3 vs xs ∧ SR H2 L3 S2 T2) := fun e hd => by
    obtain ⟨a, vs, rfl, h1, _⟩ := hs.seqK p e
    obtain rfl : u = Value.ref a := r
    rcases h1 with ⟨h0, _⟩ | ⟨h0, _⟩
    · refine ⟨.t a, rfl, fun H2 L2 S2 T2 l2 s2 e2 => ?_⟩
      rw [hd] at e2
      obtain ⟨b, ws, eb, h2, s3, p3⟩ := s2.seqK (l2 _ _ p) e2
      injection eb with eb
      subst eb
      rcases h2 with ⟨_, h2⟩ | ⟨z, _⟩
      · exact ⟨ws, _, SqT.of h2, LaddL.le, p3, s3⟩
      · rw [h0] at z; cases z
    · refine ⟨.l a, rfl, fun H2 L2 S2 T2 l2 s2 e2 => ?_⟩
      rw [hd] at e2
      obtain ⟨b, ws, eb, h2, s3, p3⟩ := s2.seqK (l2 _ _ p) e2
      injection eb with eb
      subst eb
      rcases h2 with ⟨z, _⟩ | ⟨_, h2⟩
      · rw [h0] at z; cases z
      · exact ⟨ws, _, SqL.of h2, LaddL.le, p3, s3⟩
  cases d with
  | str z =>
    rw [hs.vstr p] at r
    obtain ⟨t, rfl⟩ := r
    simp only [drawD, Option.some.injEq] at e
    refine ⟨.s z t, rfl, fun H2 L2 S2 T2 l2 s2 e2 => ?_⟩
    obtain ⟨L3, l3, p3, s3⟩ := Ls.signs s2 z
    rw [e] at p3
    exact ⟨_, L3, rfl, l3, p3, s3⟩
  | lst zs => exact sq e fun _ => rfl
  | tup zs => exact sq e fun _ => rfl
  | cell n => exact sq e fun _ => rfl
  | _ => simp [drawD, seqD] at e
end
def pairs (xs ys : List Dat) : List Dat := List.zipWith (fun a b => Dat.tup [a, b]) xs ys
def uZ (ua : UA) : UI := fun dl S R X => ua dl S (fun ds S1 => match ds with
  | [a, b] => ∃ xs ys, drawD S1 a = some xs ∧ drawD S1 b = some ys ∧ R (pairs xs ys) (fun S => drawD S a = some xs ∧ drawD S b = some ys) S1
  | _ => False) X
section
variable {X : Cx} {W : WX} {e e2 a b : Expr} {ta : TA} {ua : UA} {te : TE} {ue : UE} {p pos tpos : Pos} {elts : List Expr} {kk : Nat} {tg : Expr}
theorem di_zip [Tabl] (hm : X.mg "zip" = none) (ha : DA X W [e, e2] ta ua) (hg : Gl X "zip" := by rfl)
    (hs : starEach [e, e2] X.env = (false, eval e X.env) :: starEach [e2] X.env := by rfl) (hpl : (backTo pos (starEach [e2] X.env)).any (·.1) = false := by rfl) :
    DI X W (.Tuple elts kk tpos) (.Call (.Name "zip" p) [e, e2] [] pos) (iZ X.K ta) (uZ ua) := ⟨pi_z hg hm ha.run hs hpl, fun {sg dl L H S T R X' Q} he hs h hq hx =>
  ha.imp he hs h (fun vs ds L1 H1 S1 l1 p1 s1 h1 => by
    match ds, p1, h1 with
    | [a, b], p1, h1 =>
      obtain ⟨xs, ys, ea, eb, h1⟩ := h1
      obtain ⟨v, w, rfl, pv, pw⟩ := p1.two
      refine ⟨v, w, rfl, fun u1 u2 r1 r2 => ?_⟩
      obtain ⟨k1, e1, f1⟩ := sk_of (KF := X.K) s1 pv ea r1
      obtain ⟨k2, e2, f2⟩ := sk_of (KF := X.K) s1 pw eb r2
      obtain ⟨xv, _, hxv, _⟩ := f1 H1 L1 S1 T (.refl _) s1 ea
      obtain ⟨yv, _, hyv, _⟩ := f2 H1 L1 S1 T (.refl _) s1 eb
      refine ⟨k1, k2, xv, yv, e1, e2, hxv, hyv, hq _ (pairs xs ys) (fun S => drawD S a = some xs ∧ drawD S b = some ys) L1 H1 S1 l1 s1 ⟨fun i H2 L2 S2 T2 l2 s2 hP hi => ?_, fun i H2 L2 S2 T2 x H3 d l2 s2 hP hd hy => ?_, fun i H2 L2 S2 T2 l2 s2 hP hi => ?_⟩ h1⟩
      · obtain ⟨vs, L3, h3, l3, p3, s3⟩ := f1 H2 L2 S2 T2 l2 s2 hP.1
        obtain ⟨ws, L4, h4, l4, p4, s4⟩ := f2 H2 L3 S2 T2 (l2.trans l3) s3 hP.2
        have hl : i < min xs.length ys.length := by simpa [pairs] using hi
        exact ⟨vs, ws, vs[i]'(by rw [p3.length]; omega), ws[i]'(by rw [p4.length]; omega), h3, h4, List.getElem?_eq_getElem _, List.getElem?_eq_getElem _⟩
      · obtain ⟨vs, L3, h3, l3, p3, s3⟩ := f1 H2 L2 S2 T2 l2 s2 hP.1
        obtain ⟨ws, L4, h4, l4, p4, s4⟩ := f2 H2 L3 S2 T2 (l2.trans l3) s3 hP.2
        obtain ⟨A, x1, y1, rfl, hA, rfl, hx1, hy1⟩ := hy
        have ex := hx1 vs h3
        have ey := hy1 ws h4
        obtain ⟨c, ec, pc⟩ := p3.getV ex
        obtain ⟨c2, ec2, pc2⟩ := p4.getV ey
        have ed : d = .tup [c, c2] := by
          unfold pairs at hd
          rw [List.getElem?_zipWith, ec, ec2] at hd
          injection hd with hd
          exact hd.symm
        subst ed
        exact ⟨Ladd L4 _ _, (l3.trans l4).trans Ladd.le, Ladd.here, s4.tup hA ⟨l4 _ _ pc, pc2, True.intro⟩⟩
      · obtain ⟨vs, L3, h3, l3, p3, s3⟩ := f1 H2 L2 S2 T2 l2 s2 hP.1
        obtain ⟨ws, L4, h4, l4, p4, s4⟩ := f2 H2 L3 S2 T2 (l2.trans l3) s3 hP.2
        refine ⟨vs, ws, h3, h4, ?_⟩
        rw [hi, p3.length, p4.length]
        simp [pairs]
    | [], _, h1 => exact h1.elim
    | [_], _, h1 => exact h1.elim
    | _ :: _ :: _ :: _, _, h1 => exact h1.elim) hx⟩
/-- a list, a tuple, a text -/
def iSeq (K : PySem.W.Frag) (te : TE) : TI := fun sg H R => te sg H fun v H1 => (∃ a, v = .ref a ∧ (∃ xs, SqL K H1 a xs) ∧ R (Itl K a) H1) ∨ (∃ a, v = .ref a ∧ (∃ xs, SqT K H1 a xs) ∧ R (Itt K a) H1) ∨ ∃ x, v = .str x ∧ R (Its x) H1
theorem pi_any (hl : PE X e te) : PI X tg e (iSeq X.K te) := by
  refine ⟨fun pins s sg H R I h => ?_⟩
  refine thn (hl.run pins s sg H _ I h) fun v s1 ⟨x, H1, I1, r1, q1⟩ => ?_
  rcases q1 with q | q | q
  · obtain ⟨a, e, ⟨xs, hq⟩, q⟩ := q
    subst e
    cases r1
    obtain ⟨its, rv, p, hz⟩ := I1.list hq
    refine wpAny_pyIter_list p.isList ?_
    refine ⟨s1.heap.objs.size, [s1.heap.objs.size], _, _, H1, rfl, I1.kept (t' := s1.toks) fun b o e => Heap.get?_push_of_some _ e, turn_list a _, ⟨_, Heap.get?_push_size _ rfl, rfl, rfl⟩, fun b hb => ?_, q⟩
    have e : b = s1.heap.objs.size := by simpa using hb
    subst e
    exact I1.fpOk (Nat.le_refl _) (I1.hok.fresh (Nat.le_refl _))
  · obtain ⟨a, e, ⟨xs, hq⟩, q⟩ := q
    subst e
    cases r1
    obtain ⟨its, rv, p, hz⟩ := I1.tuple hq
    refine wpAny_pyIter_tuple (show s1.heap.IsTuple a its.toArray from p) ?_
    refine ⟨s1.heap.objs.size, [s1.heap.objs.size], _, _, H1, rfl, I1.kept (t' := s1.toks) fun b o e => Heap.get?_push_of_some _ e, turn_tuple a _, ⟨_, Heap.get?_push_size _ rfl, rfl, rfl⟩, fun b hb => ?_, q⟩
    have e : b = s1.heap.objs.size := by simpa using hb
    subst e
    exact I1.fpOk (Nat.le_refl _) (I1.hok.fresh (Nat.le_refl _))
  · obtain ⟨x, e, q⟩ := q
    subst e
    obtain ⟨t, rfl⟩ := r1
    cases ha : x.cps.all (· < 128)
    · exact wpAny_pyIter_wide ha (pi_one (tk := s1.toks) I1 _ (turn_str _ x t "str_iterator" (.inr rfl)) ⟨_, Heap.get?_push_size _ rfl, rfl, rfl⟩ q)
    · exact wpAny_pyIter_ascii ha (pi_one (tk := s1.toks) I1 _ (turn_str _ x t "str_ascii_iterator" (.inl rfl)) ⟨_, Heap.get?_push_size _ rfl, rfl, rfl⟩ q)
def uSeqI (ue : UE) : UI := fun dl S R X => ue dl S (fun d S1 => ∃ xs, drawD S1 d = some xs ∧ R xs (fun S => drawD S d = some xs) S1) X
theorem di_seq [Tabl] (h : DE X W e te ue) : DI X W tg e (iSeq X.K te) (uSeqI ue) := ⟨pi_any h.run, fun {sg dl L H S T R X' Q} he hs h' hq hx =>
  h.imp he hs h' (fun v d L1 H1 S1 l1 p1 s1 h1 => by
    obtain ⟨xs, e1, h1⟩ := h1
    have sq : seqD S1 d = some xs → (∀ S2, drawD S2 d = seqD S2 d) → (∃ a, v = .ref a ∧ (∃ xs, SqL X.K H1 a xs) ∧ Q (Itl X.K a) H1) ∨ (∃ a, v = .ref a ∧ (∃ xs, SqT X.K H1 a xs) ∧ Q (Itt X.K a) H1) := fun e hd => by
      obtain ⟨a, vs, rfl, h2, _⟩ := s1.seqK p1 e
      rcases h2 with ⟨h0, h2⟩ | ⟨h0, h2⟩
      · refine .inr ⟨a, rfl, ⟨vs, .of h2⟩, hq _ xs (fun S => drawD S d = some xs) L1 H1 S1 l1 s1 ⟨fun i H2 L2 S2 T2 l2 s2 hP hi => ?_, fun i H2 L2 S2 T2 x H3 c l2 s2 hP hd' hy => ?_, fun i H2 L2 S2 T2 l2 s2 hP hi => ?_⟩ h1⟩
        · rw [hd] at hP
          obtain ⟨b, ws, eb, h3, s3, p3⟩ := s2.seqK (l2 _ _ p1) hP
          injection eb with eb
          subst eb
          rcases h3 with ⟨_, h3⟩ | ⟨z, _⟩
          · exact ⟨ws, ws[i]'(by rw [p3.length]; exact hi), .of h3, List.getElem?_eq_getElem _⟩
          · rw [h0] at z; cases z
        · rw [hd] at hP
          obtain ⟨b, ws, eb, h3, s3, p3⟩ := s2.seqK (l2 _ _ p1) hP
          injection eb with eb
          subst eb
          rcases h3 with ⟨_, h3⟩ | ⟨z, _⟩
          · obtain ⟨rfl, hy⟩ := hy
            obtain ⟨w, h4, h5⟩ := p3.get hd'
            have := hy ws (.of h3)
            rw [h4] at this
            injection this with this
            subst this
            exact ⟨_, LaddL.le, h5, s3⟩
          · rw [h0] at z; cases z
        · rw [hd] at hP
          obtain ⟨b, ws, eb, h3, s3, p3⟩ := s2.seqK (l2 _ _ p1) hP
          injection eb with eb
          subst eb
          rcases h3 with ⟨_, h3⟩ | ⟨z, _⟩
          · exact ⟨ws, .of h3, by rw [p3.length, hi]; exact Nat.le_refl _⟩
          · rw [h0] at z; cases z
      · refine .inl ⟨a, rfl, ⟨vs, .of h2⟩, hq _ xs (fun S => drawD S d = some xs) L1 H1 S1 l1 s1 ⟨fun i H2 L2 S2 T2 l2 s2 hP hi => ?_, fun i H2 L2 S2 T2 x H3 c l2 s2 hP hd' hy => ?_, fun i H2 L2 S2 T2 l2 s2 hP hi => ?_⟩ h1⟩
        · rw [hd] at hP
          obtain ⟨b, ws, eb, h3, s3, p3⟩ := s2.seqK (l2 _ _ p1) hP
          injection eb with eb
          subst eb
          rcases h3 with ⟨z, _⟩ | ⟨_, h3⟩
          · rw [h0] at z; cases z
          · exact ⟨ws, ws[i]'(by rw [p3.length]; exact hi), .of h3, List.getElem?_eq_getElem _⟩
        · rw [hd] at hP
          obtain ⟨b, ws, eb, h3, s3, p3⟩ := s2.seqK (l2 _ _ p1) hP
          injection eb with eb
          subst eb
          rcases h3 with ⟨z, _⟩ | ⟨_, h3⟩
          · rw [h0] at z; cases z
          · obtain ⟨rfl, hy⟩ := hy
            obtain ⟨w, h4, h5⟩ := p3.get hd'
            have := hy ws (.of h3)
            rw [h4] at this
            injection this with this
            subst this
            exact ⟨_, LaddL.le, h5, s3⟩
        · rw [hd] at hP
          obtain ⟨b, ws, eb, h3, s3, p3⟩ := s2.seqK (l2 _ _ p1) hP
          injection eb with eb
          subst eb
          rcases h3 with ⟨z, _⟩ | ⟨_, h3⟩
          · rw [h0] at z; cases z
          · exact ⟨ws, .of h3, by rw [p3.length, hi]; exact Nat.le_refl _⟩
    cases d with
    | str z =>
      refine .inr (.inr ⟨z, s1.vstr p1, hq _ xs (fun S => drawD S (.str z) = some xs) L1 H1 S1 l1 s1 ⟨fun i H2 L2 S2 T2 l2 s2 hP hi => ?_, fun i H2 L2 S2 T2 x H3 c l2 s2 hP hd' hy => ?_, fun i H2 L2 S2 T2 l2 s2 hP hi => ?_⟩ h1⟩)
      · simp only [drawD, Option.some.injEq] at hP
        rw [← hP] at hi
        show i < z.cps.size
        simpa using hi
      · simp only [drawD, Option.some.injEq] at hP
        obtain ⟨rfl, c', hc, rfl⟩ := hy
        rw [← hP, List.getElem?_map, show z.cps.toList[i]? = some c' by simpa using hc] at hd'
        injection hd' with hd'
        subst hd'
        exact ⟨Ladd L2 _ _, Ladd.le, Ladd.here, s2.flat rfl⟩
      · simp only [drawD, Option.some.injEq] at hP
        show z.cps.size ≤ i
        rw [hi, ← hP]
        simp
    | lst zs => exact (sq e1 fun _ => rfl).elim .inl fun z => .inr (.inl z)
    | tup zs => exact (sq e1 fun _ => rfl).elim .inl fun z => .inr (.inl z)
    | cell n => exact (sq e1 fun _ => rfl).elim .inl fun z => .inr (.inl z)
    | _ => simp [drawD, seqD] at e1) hx⟩
/-- ranges -/
def rangeD (lo : Int) (n : Nat) : List Dat := (List.range n).map fun (i : Nat) => Dat.int (lo + (i : Int))
theorem itr_ok [Tabl] {lo : Int} {n : Nat} {L : LL} : ItI (Itr lo n) (rangeD lo n) L (fun _ => True) :=
  ⟨fun i H2 L2 S2 T2 l2 s2 hP hi => by show i < n; simpa [rangeD] using hi, fun i H2 L2 S2 T2 x H3 c l2 s2 hP hd' hy => by
    obtain ⟨rfl, rfl⟩ := hy
    simp only [rangeD, List.getElem?_map, Option.map_eq_some_iff] at hd'
    obtain ⟨j, hj, rfl⟩ := hd'
    have := List.getElem?_eq_some_iff.mp hj
    obtain ⟨h1, h2⟩ := this
    simp at h2
    subst h2
    exact ⟨Ladd L2 _ _, Ladd.le, Ladd.here, s2.flat rfl⟩, fun i H2 L2 S2 T2 l2 s2 hP hi => by
    show n ≤ i
    rw [hi]; simp [rangeD]⟩
def uR1 (ua : UA) : UI := fun dl S R X => ua dl S (fun ds S1 => match ds with
  | [.int j] => (-(2 ^ 62) ≤ j ∧ j < 2 ^ 62) ∧ R (rangeD 0 j.toNat) (fun _ => True) S1
  | _ => False) X
def uR2 (ua : UA) : UI := fun dl S R X => ua dl S (fun ds S1 => match ds with
  | [.int i, .int j] => (-(2 ^ 62) ≤ i ∧ i < 2 ^ 62 ∧ -(2 ^ 62) ≤ j ∧ j < 2 ^ 62) ∧ R (rangeD i (j - i).toNat) (fun _ => True) S1
  | _ => False) X
theorem di_range1 [Tabl] (hm : X.mg "range" = none) (ha : DA X W [a] ta ua) (hg : Gl X "range" := by rfl) (hs : starEach [a] X.env = [(false, eval a X.env)] := by rfl) : DI X W tg (.Call (.Name "range" p) [a] [] pos) (iRng1 ta) (uR1 ua) :=
  ⟨pi_range1 hg hm ha.run hs, fun {sg dl L H S T R X' Q} he hs h hq hx => ha.imp he hs h (fun vs ds L1 H1 S1 l1 p1 s1 h1 => by
    match ds, p1, h1 with
    | [.int j], p1, h1 =>
      obtain ⟨v, rfl, pv⟩ := p1.one
      rw [s1.vint pv]
      exact ⟨j, rfl, h1.1.1, h1.1.2, hq _ _ _ L1 H1 S1 l1 s1 itr_ok h1.2⟩) hx⟩
end
end DL
/-! DL8: short words for what the printer prints. -/
namespace DL
open PySem L2
abbrev gSub : G2 := gInt0 fun i j => i - j
abbrev gMul : G2 := gInt CMul fun i j => i * j
abbrev gMod : G2 := gInt (fun _ j => 0 < j) fun i j => i % j
abbrev gFdiv : G2 := gInt CDiv fun i j => i / j
abbrev gPow : G2 := gInt CPow fun i j => i ^ j.toNat
abbrev gNeg : G1 := fun d S K => match d with
    | .int i => K (.int (-i)) S
    | _ => False
/-- a def that may be called, at f: what it promises; dd: its defaults -/
def Callee [Tabl] (P : Program) (w : World) (K : PySem.W.Frag) (mg : Str → Option Value) (base : Heap) (k : Nat) (f : Addr) (ps : List Str) (F : Spec) (dd : List Dat) : Prop :=
  ∃ fd dl dvs, FnOk P w K mg base (L2.CX P w) k f fd ps (spOf F) ∧ PySem.W.keepIn K (.ref f) = true ∧ Binds K fd ps dl ∧ Vals dvs dl ∧ Flats dd dvs
section
variable {X : Cx} {W : WX} {k j : Nat} {f : Addr} {ps : List Str} {F : Spec} {x : Str} {p pos : Pos} {e : Expr} {es : List Expr} {t : TA} {u : UA} {dd : List Dat}
/-- the reading by values hangs on the defaults: it is told by what it is -/
theorem de_callF [Tabl] {dvs : List V} (c : ∃ fd dl, FnOk X.prog X.w X.K X.mg X.base (L2.CX X.prog X.w) k f fd ps (spOf F) ∧ PySem.W.keepIn X.K (.ref f) = true ∧ Binds X.K fd ps dl ∧ Vals dvs dl ∧ Flats dd dvs) (hr : Room j X.A) (hj : k ≤ j) (hm : X.mg x = some (.ref f)) (tk : Takes X W)
    (ha : DA X W (e :: es) t u) (hg : Gl X x := by rfl) (hdb : (x == ("__debug__" : Str)) = false := by decide) (he : starEach (e :: es) X.env = (false, eval e X.env) :: starEach es X.env := by rfl) (hpl : (backTo pos (starEach es X.env)).any (·.1) = false := by rfl) :
    DE X W (.Call (.Name x p) (e :: es) [] pos) (tCallSD (spOf F) dvs (WE W) t) (uCall F dd u) := by
  obtain ⟨fd, dl, h1, h2, h3, h4, h5⟩ := c
  exact de_call h1 (hr.mono hj) hm h2 h3 h4 h5 tk ha hg hdb he hpl
theorem de_gint [Tabl] {i : Int} (h : ∃ t, X.mg x = some (.int i t)) (hg : Gl X x := by rfl) (hd : (x == ("__debug__" : Str)) = false := by decide) : DE X W (.Name x pos) (tC (.int i)) (uC (.int i)) := by
  obtain ⟨t, h⟩ := h
  exact de_glob (d := .int i) (v := .int i) h ⟨t, rfl⟩ rfl hg hd
theorem de_gstr [Tabl] {i : Str} (h : ∃ t, X.mg x = some (.str i t)) (hg : Gl X x := by rfl) (hd : (x == ("__debug__" : Str)) = false := by decide) : DE X W (.Name x pos) (tC (.str i)) (uC (.str i)) := by
  obtain ⟨t, h⟩ := h
  exact de_glob (d := .str i) (v := .str i) h ⟨t, rfl⟩ rfl hg hd
end
/-- the same, the defaults' values told -/
def CalleeV [Tabl] (P : Program) (w : World) (K : PySem.W.Frag) (mg : Str → Option Value) (base : Heap) (k : Nat) (f : Addr) (ps : List Str) (F : Spec) (dd : List Dat) (dvs : List V) : Prop :=
  ∃ fd dl, FnOk P w K mg base (L2.CX P w) k f fd ps (spOf F) ∧ PySem.W.keepIn K (.ref f) = true ∧ Binds K fd ps dl ∧ Vals dvs dl ∧ Flats dd dvs
end DL
/-! DL8K: the rules that name the frozen part, with its name told (for what stands in a comprehension). -/
namespace DL
open PySem L2
section
variable {X : Cx} {W : WX} {a b c e o : Expr} {es rest : List Expr} {ta tb tc te to : TE} {ua ub uc ue uo : UE} {tA tB' : TT} {uA uB : UT} {t : TA} {u : UA} {pos p tpos : Pos} {r r' : R2} {g g' : G2} (KK : PySem.W.Frag) (hK : X.K = KK)
include hK
theorem dt_truK [Tabl] (ha : DE X W a ta ua) (hh : ∀ whole, isTrue a X.env whole = (do let v ← whole; standAt a.pos; holding [v] (truthy v)) := by intro _; rfl) : DT X W a (fun sg H Q => ta sg H fun x H' => ∃ k, TruV KK x H' k ∧ Q k H') (uTru ua) := by subst hK; exact dt_tru ha hh
theorem dg_tupK [Tabl] {tr : TGs} {ur : UGs} {ts : List Nat} {k n : Nat} (hc : X.calm = true) (h : DGs X W es tr ur ts) (hn : (assignEach es X.env).length = n := by rfl) (hst : (assignEach es X.env).findIdx? (·.1) = none := by rfl) : DG X W (.Tuple es k pos) (gTup KK n tr) (uGTup n ur) ts := by subst hK; exact dg_tup hc h hn hst
theorem dop_addK [Tabl] : DOp X (binaryOp .Add) (rAddG KK) gAdd := by subst hK; exact dop_add
theorem dop_inK [Tabl] : DOp X (compareOp .In) (rInG KK false) (gIn id) := by subst hK; exact dop_in
theorem de_ixK [Tabl] (ha : DE X W a ta ua) (hb : DE X W b tb ub) (hs : PlainIx b := by exact fun _ _ => rfl) : DE X W (.Subscript a b pos) (tOp (rIx KK) ta tb) (uOp gIx ua ub) := by subst hK; exact de_ix ha hb hs
theorem dcb_lenK [Tabl] : DCb X (.builtin "len") (fun xs H Q => ∃ x n, xs = [x] ∧ LenV KK x H n ∧ Q (.int n) H) gLen := by subst hK; exact dcb_len
end
end DL
/-! DL9: one step of a reading at a time. -/
namespace DL
open PySem L2
def tyD : Dat → String
  | .non => "NoneType" | .bl _ => "bool" | .int _ => "int" | .str _ => "str" | .lst _ => "list" | .tup _ => "tuple" | _ => "?"
section
variable {dl : Env'} {S : Store} {K : KE} {X : KX} {D : DEnds} {i j : Nat} {d d' x y z : Dat} {ua ub uc ue : UE} {tA tB : UT} {u : UA} {a b : US} {g g' : G2} {KT : Bool → Store → Prop} {KA : List Dat → Store → Prop} {xs ys ds : List Dat} {KF : PySem.W.Frag}
theorem x_seq (h : a { D with nx := b D } dl S) : uSeq a b D dl S := h
theorem x_next (h : D.nx dl S) : uNext D dl S := h
theorem x_break (h : D.bk dl S) : uBreak D dl S := h
theorem x_cont (h : D.ct dl S) : uCont D dl S := h
theorem x_drop (h : ue dl S (fun _ S1 => D.nx dl S1) (fun e S1 => D.ex e dl S1)) : uDrop ue D dl S := h
theorem x_ret (h : ue dl S (fun d S1 => D.rt d S1) (fun e S1 => D.ex e dl S1)) : uRet ue D dl S := h
theorem x_retN (h : D.rt .non S) : uRetN D dl S := h
theorem x_ifS (h : tA dl S (fun k S1 => if k = true then a D dl S1 else b D dl S1) (fun e S1 => D.ex e dl S1)) : uIfS tA a b D dl S := h
theorem x_set (h : ue dl S (fun d S1 => i < dl.length ∧ D.nx (dl.set i (some d)) S1) (fun e S1 => D.ex e dl S1)) : uSet i ue D dl S := h
theorem x_asg {ug : UG} (h : ue dl S (fun d S1 => ug d dl S1 D.nx (fun e S1 => D.ex e dl S1)) (fun e S1 => D.ex e dl S1)) : uAsg ue ug D dl S := h
theorem x_par (h : u dl S (fun ds S1 => match ds with
  | [a, b] => i < dl.length ∧ j < dl.length ∧ D.nx ((dl.set i (some a)).set j (some b)) S1
  | _ => False) (fun e S1 => D.ex e dl S1)) : uPar i j u D dl S := h
theorem x_name {KN : Env' → Store → Prop} (h : i < dl.length) (k : KN (dl.set i (some d)) S) : uName i d dl S KN X := ⟨h, k⟩
theorem x_gsub {KN : Env' → Store → Prop} {gs : GS} (h : ua dl S (fun o S1 => ub dl S1 (fun i S2 => gs o i d S2 fun S3 => KN dl S3) X) X) : uGSub ua ub gs d dl S KN X := h
theorem x_gtup {KN : Env' → Store → Prop} {n : Nat} {ug : UGs} (h : xs.length = n) (k : ug xs dl S KN (fun _ _ => False)) : uGTup n ug (.tup xs) dl S KN X := ⟨h, k⟩
theorem x_gnil {KN : Env' → Store → Prop} (k : KN dl S) : uGNil [] dl S KN X := k
theorem x_gcons {KN : Env' → Store → Prop} {ug : UG} {ur : UGs} (k : ug d dl S (fun dl2 S2 => ur xs dl2 S2 KN X) X) : uGCons ug ur (d :: xs) dl S KN X := k
theorem x_var (h : dl[i]? = some (some d)) (k : K d S) : uVar i dl S K X := by unfold uVar; rw [h]; exact k
theorem x_c (k : K d S) : uC d dl S K X := k
theorem x_op (h : ua dl S (fun x S1 => ub dl S1 (fun y S2 => g x y S2 K) X) X) : uOp g ua ub dl S K X := h
theorem x_un {g : G1} (h : ua dl S (fun x S1 => g x S1 K) X) : uUn g ua dl S K X := h
theorem x_nil (h : KA [] S) : uNil dl S KA X := h
theorem x_cons (h : ua dl S (fun x S1 => u dl S1 (fun xs S2 => KA (x :: xs) S2) X) X) : uCons ua u dl S KA X := h
theorem x_tup (h : u dl S (fun xs S1 => xs.length ≤ sizeLine ∧ K (.tup xs) S1) X) : uTup u dl S K X := h
theorem x_lst (h : u dl S (fun xs S1 => xs.length ≤ sizeLine ∧ K (.lst xs) S1) X) : uLst u dl S K X := h
theorem x_lstC (h : u dl S (fun xs S1 => xs.length ≤ sizeLine ∧ K (.cell S1.length) (S1 ++ [.lst xs])) X) : uLstC u dl S K X := h
theorem x_cb {g : GL} (h : u dl S (fun xs S1 => g xs S1 K) X) : uCB g u dl S K X := h
theorem x_call {F : Spec} {dd : List Dat} (h : u dl S (fun ds S1 => F (ds ++ dd) S1 K X) X) : uCall F dd u dl S K X := h
theorem x_if (h : tA dl S (fun c S1 => if c = true then ua dl S1 K X else ub dl S1 K X) X) : uIf tA ua ub dl S K X := h
theorem x_test (h : ua dl S (fun d S1 => match d with
  | .bl b => KT b S1
  | _ => False) X) : uTest ua dl S KT X := h
theorem x_and (h : tA dl S (fun c S1 => if c = true then tB dl S1 KT X else KT false S1) X) : uAnd tA tB dl S KT X := h
theorem x_or (h : tA dl S (fun c S1 => if c = true then KT true S1 else tB dl S1 KT X) X) : uOr tA tB dl S KT X := h
theorem x_not (h : tA dl S (fun c S1 => KT (!c) S1) X) : uNot tA dl S KT X := h
theorem x_tru (h : ua dl S (fun d S1 => gTru d S1 KT) X) : uTru ua dl S KT X := h
theorem x_andV (h : ua dl S (fun d S1 => gTru d S1 fun c S2 => if c = true then ub dl S2 K X else K d S2) X) : uAndV ua ub dl S K X := h
theorem x_orV (h : ua dl S (fun d S1 => gTru d S1 fun c S2 => if c = true then K d S2 else ub dl S2 K X) X) : uOrV ua ub dl S K X := h
theorem x_notV (h : ua dl S (fun d S1 => gTru d S1 fun c S2 => K (.bl (!c)) S2) X) : uNotV ua dl S K X := h
theorem x_yes (h : KT true S) : uYes dl S KT X := h
theorem x_chain (h : ua dl S (fun x S1 => ub dl S1 (fun y S2 => g x y S2 fun z S3 => match z with
  | .bl c => if c = true then uc dl S3 (fun w S4 => g' y w S4 K) X else K (.bl false) S3
  | _ => False) X) X) : uChain g g' ua ub uc dl S K X := h
/-! tests -/
theorem x_iteT {A B : Prop} (h : A) : if true = true then A else B := h
theorem x_iteF {A B : Prop} (h : B) : if false = true then A else B := h
theorem x_ite {c : Bool} {A B : Prop} (h1 : c = true → A) (h2 : c = false → B) : if c = true then A else B := by
  cases c with
  | true => exact h1 rfl
  | false => exact h2 rfl
theorem x_tN (h : KT false S) : gTru .non S KT := h
theorem x_tB {c : Bool} (h : KT c S) : gTru (.bl c) S KT := h
theorem x_tI {i : Int} (h : KT (i != 0) S) : gTru (.int i) S KT := h
theorem x_tT (h : KT (!xs.isEmpty) S) : gTru (.tup xs) S KT := h
theorem x_tL (h : KT (!xs.isEmpty) S) : gTru (.lst xs) S KT := h
/-! operators -/
variable {m n : Int} {s t : Str} {p q : Bool}
theorem x_addI (k : K (.int (m + n)) S) : gAdd (.int m) (.int n) S K := k
theorem x_addS (h : s.length + t.length ≤ sizeLine) (k : K (.str (s ++ t)) S) : gAdd (.str s) (.str t) S K := ⟨h, k⟩
theorem x_addL (h : xs.length + ys.length ≤ sizeLine) (k : K (.lst (xs ++ ys)) S) : gAdd (.lst xs) (.lst ys) S K := ⟨h, k⟩
theorem x_sub (k : K (.int (m - n)) S) : gSub (.int m) (.int n) S K := k
theorem x_mul (h : CMul m n) (k : K (.int (m * n)) S) : gMul (.int m) (.int n) S K := ⟨h, k⟩
theorem x_mod (h : 0 < n) (k : K (.int (m % n)) S) : gMod (.int m) (.int n) S K := ⟨h, k⟩
theorem x_fdiv (h : CDiv m n) (k : K (.int (m / n)) S) : gFdiv (.int m) (.int n) S K := ⟨h, k⟩
theorem x_pow (h : CPow m n) (k : K (.int (m ^ n.toNat)) S) : gPow (.int m) (.int n) S K := ⟨h, k⟩
theorem x_neg (k : K (.int (-m)) S) : gNeg (.int m) S K := k
theorem x_ltI (k : K (.bl (decide (m < n))) S) : gLt (.int m) (.int n) S K := k
theorem x_leI (k : K (.bl (decide (m ≤ n))) S) : gLe (.int m) (.int n) S K := k
theorem x_gtI (k : K (.bl (decide (n < m))) S) : gGt (.int m) (.int n) S K := k
theorem x_geI (k : K (.bl (decide (n ≤ m))) S) : gGe (.int m) (.int n) S K := k
theorem x_ltS (k : K (.bl (ltS s t)) S) : gLt (.str s) (.str t) S K := k
theorem x_leS (k : K (.bl (!ltS t s)) S) : gLe (.str s) (.str t) S K := k
theorem x_gtS (k : K (.bl (ltS t s)) S) : gGt (.str s) (.str t) S K := k
theorem x_geS (k : K (.bl (!ltS s t)) S) : gGe (.str s) (.str t) S K := k
theorem x_eqI (k : K (.bl (decide (m = n))) S) : gEq (.int m) (.int n) S K := k
theorem x_eqS (k : K (.bl (decide (s = t))) S) : gEq (.str s) (.str t) S K := k
theorem x_eqB (k : K (.bl (decide (p = q))) S) : gEq (.bl p) (.bl q) S K := k
theorem x_neI (k : K (.bl (!decide (m = n))) S) : gNe (.int m) (.int n) S K := k
theorem x_neS (k : K (.bl (!decide (s = t))) S) : gNe (.str s) (.str t) S K := k
theorem x_neB (k : K (.bl (!decide (p = q))) S) : gNe (.bl p) (.bl q) S K := k
theorem x_is (h : noRaw x = true) (k : K (.bl (isNonD x)) S) : gIs id x .non S K := ⟨h, k⟩
theorem x_isnot (h : noRaw x = true) (k : K (.bl (!isNonD x)) S) : gIs (!·) x .non S K := ⟨h, k⟩
theorem x_inS {c : Nat} (k : K (.bl (decide (c ∈ s.cps.toList))) S) : gIn id (.str (sgn c)) (.str s) S K := ⟨c, rfl, k⟩
theorem x_notinS {c : Nat} (k : K (.bl (!decide (c ∈ s.cps.toList))) S) : gIn (!·) (.str (sgn c)) (.str s) S K := ⟨c, rfl, k⟩
theorem x_ixL (e : seqD S x = some xs) (h : atI xs m = some d) (k : K d S) : gIx x (.int m) S K := by
  unfold gIx
  cases x with
  | str z => simp [seqD] at e
  | _ => exact ⟨xs, d, e, h, k⟩
theorem x_ixS {c : Nat} (hl : s.length ≤ sizeLine) (h : atI s.cps.toList m = some c) (k : K (.str (sgn c)) S) : gIx (.str s) (.int m) S K := ⟨hl, c, h, k⟩
/-! built-ins -/
theorem x_lenS (hl : s.length ≤ sizeLine) (k : K (.int s.length) S) : gLen [.str s] S K := ⟨hl, k⟩
theorem x_lenL (e : seqD S x = some xs) (k : K (.int xs.length) S) : gLen [x] S K := by
  unfold gLen
  cases x with
  | str z => simp [seqD] at e
  | _ => exact ⟨xs, e, k⟩
theorem x_intI (k : K (.int m) S) : gInt1 [.int m] S K := k
theorem x_intB (k : K (.int (if p then 1 else 0)) S) : gInt1 [.bl p] S K := k
theorem x_abs (k : K (.int (if m < 0 then -m else m)) S) : gAbs [.int m] S K := k
theorem x_isi {t : String} {T : String} (e : tyS S d = some t) (hT : T ∈ tyNames) (k : K (.bl (isB t T)) S) : gIsi KF [d, .raw (.ty T)] S K := by
  refine ⟨isB t T, ?_, k⟩
  unfold isOne
  rw [e]
  exact ⟨hT, rfl⟩
theorem x_isi2 {t T1 T2 : String} (e : tyS S d = some t) (h1 : T1 ∈ tyNames) (h2 : T2 ∈ tyNames) (k : K (.bl (isB t T1 || isB t T2)) S) : gIsi KF [d, .tup [.raw (.ty T1), .raw (.ty T2)]] S K := by
  have o : ∀ T ∈ tyNames, isOne KF S d (.raw (.ty T)) (isB t T) := fun T hT => by unfold isOne; rw [e]; exact ⟨hT, rfl⟩
  refine ⟨rfl, _, ⟨isB t T1, o T1 h1, fun z => by rw [z]; rfl, fun z => ⟨isB t T2, o T2 h2, fun z2 => by rw [z, z2]; rfl, fun z2 => by rw [z, z2]; rfl⟩⟩, k⟩
theorem x_isiD {T : String} (e : tyS S d = some (tyD d)) (hT : T ∈ tyNames) (k : K (.bl (isB (tyD d) T)) S) : gIsi KF [d, .raw (.ty T)] S K := x_isi e hT k
theorem x_isiD2 {T1 T2 : String} (e : tyS S d = some (tyD d)) (h1 : T1 ∈ tyNames) (h2 : T2 ∈ tyNames) (k : K (.bl (isB (tyD d) T1 || isB (tyD d) T2)) S) : gIsi KF [d, .tup [.raw (.ty T1), .raw (.ty T2)]] S K := x_isi2 e h1 h2 k
theorem x_list (e : seqD S x = some xs) (k : K (.lst xs) S) : gListT [x] S K := ⟨xs, e, k⟩
theorem x_listC (e : seqD S x = some xs) (k : K (.cell S.length) (S ++ [.lst xs])) : gListC [x] S K := ⟨xs, e, k⟩
theorem x_tuple (e : seqD S x = some xs) (k : K (.tup xs) S) : gTupleC [x] S K := ⟨xs, e, k⟩
theorem x_bools {f : List Bool → Bool} {bs : List Bool} (e : lstD S x = some (bs.map Dat.bl)) (k : K (.bl (f bs)) S) : gBools f [x] S K := ⟨bs, e, k⟩
theorem x_bm {g : GM} {T : String} (h : ua dl S (fun d S1 => isT T S1 d ∧ u dl S1 (fun xs S2 => g d xs S2 K) X) X) : uBM T g ua u dl S K X := h
theorem x_bm0 {g : GM} {T : String} (h : ua dl S (fun d S1 => isT T S1 d ∧ g d [] S1 K) X) : uBM0 T g ua dl S K X := h
theorem x_append {n : Nat} (e : S[n]? = some (.lst xs)) (h : xs.length < sizeLine) (k : K .non (S.set n (.lst (xs ++ [y])))) : gAppend (.cell n) [y] S K := ⟨xs, e, h, k⟩
theorem x_join {ss : List Str} (e : seqD S y = some (ss.map Dat.str)) (h : (ss.map (·.length)).sum + ss.length * s.length ≤ 16777216) (k : K (.str (Txt.join s ss)) S) : gJoin (.str s) [y] S K := ⟨ss, e, h, k⟩
theorem x_setL {n j : Nat} {KS : Store → Prop} (e : S[n]? = some (.lst xs)) (h : ixN xs.length m = some j) (k : KS (S.set n (.lst (xs.set j d)))) : gSetL (.cell n) (.int m) d S KS := ⟨xs, j, e, h, k⟩
theorem x_part (h : ua dl S (fun d S1 => match d with
  | .int i => KO (some i) S1
  | _ => False) X) : uPart ua dl S KO X := h
theorem x_no {KO : Option Int → Store → Prop} (h : KO none S) : uNo dl S KO X := h
theorem x_sl {ul uh : UO} (h : ua dl S (fun d S1 => ul dl S1 (fun l S2 => uh dl S2 (fun h S3 => gSl d l h S3 K) X) X) X) : uSl ua ul uh dl S K X := h
theorem x_slS {lo hi : Option Int} (hl : s.length ≤ sizeLine) (k : K (.str (cutS s lo hi)) S) : gSl (.str s) lo hi S K := ⟨hl, k⟩
theorem x_slL {lo hi : Option Int} (k : K (.lst (cutD xs lo hi)) S) : gSl (.lst xs) lo hi S K := k
/-! what is walked -/
variable {R : List Dat → (Store → Prop) → Store → Prop}
theorem x_seqI (h : ua dl S (fun d S1 => ∃ xs, drawD S1 d = some xs ∧ R xs (fun S => drawD S d = some xs) S1) X) : uSeqI ua dl S R X := h
theorem x_r1 (h : u dl S (fun ds S1 => match ds with
  | [.int j] => (-(2 ^ 62) ≤ j ∧ j < 2 ^ 62) ∧ R (rangeD 0 j.toNat) (fun _ => True) S1
  | _ => False) X) : uR1 u dl S R X := h
theorem x_r2 (h : u dl S (fun ds S1 => match ds with
  | [.int i, .int j] => (-(2 ^ 62) ≤ i ∧ i < 2 ^ 62 ∧ -(2 ^ 62) ≤ j ∧ j < 2 ^ 62) ∧ R (rangeD i (j - i).toNat) (fun _ => True) S1
  | _ => False) X) : uR2 u dl S R X := h
theorem x_z (h : u dl S (fun ds S1 => match ds with
  | [a, b] => ∃ xs ys, drawD S1 a = some xs ∧ drawD S1 b = some ys ∧ R (pairs xs ys) (fun S => drawD S a = some xs ∧ drawD S b = some ys) S1
  | _ => False) X) : uZ u dl S R X := h
/-- a comprehension that keeps the store: each item gives one, or none -/
theorem lc_pick {own : List Nat} {ug : UG} {tt : UT} {P : Store → Prop} {fin : List Dat → Store → KE → Prop} (f : Dat → Option Dat) (hP : P S) (hsz : xs.length ≤ sizeLine)
    (hs : ∀ (j : Nat) d (Kt : Dat → Store → Prop) (Kf : Store → Prop), xs[j]? = some d → (∀ y, f d = some y → Kt y S) → (f d = none → Kf S) →
      ug d (wipeD dl own) S (fun dl2 S3 => tt dl2 S3 (fun b S4 => if b = true then ue dl2 S4 Kt XF0 else Kf S4) XF0) XF0)
    (k : fin (xs.filterMap f) S K) : ∃ I : Nat → List Dat → Store → Prop, I 0 [] S ∧
  (∀ (j : Nat) d acc S2, xs[j]? = some d → I j acc S2 → P S2 ∧ acc.length < sizeLine ∧ ug d (wipeD dl own) S2 (fun dl2 S3 => tt dl2 S3 (fun b S4 => if b = true then ue dl2 S4 (fun y S5 => I (j + 1) (acc ++ [y]) S5) XF0 else I (j + 1) acc S4) XF0) XF0) ∧
  ∀ acc S2, I xs.length acc S2 → P S2 ∧ fin acc S2 K := by
  refine ⟨fun j acc S' => S' = S ∧ acc = (xs.take j).filterMap f, ⟨rfl, by simp⟩, ?_, ?_⟩
  · rintro j d acc S2 hj ⟨rfl, rfl⟩
    have hlt := (List.getElem?_eq_some_iff.mp hj).1
    have et : xs.take (j + 1) = xs.take j ++ [d] := by rw [List.take_add_one, hj]; rfl
    refine ⟨hP, ?_, hs j d _ _ hj (fun y e => ?_) (fun e => ?_)⟩
    · have h1 : ((xs.take j).filterMap f).length ≤ (xs.take j).length := List.length_filterMap_le ..
      rw [List.length_take] at h1
      omega
    · refine ⟨rfl, ?_⟩
      rw [et, List.filterMap_append]
      simp [e]
    · refine ⟨rfl, ?_⟩
      rw [et, List.filterMap_append]
      simp [e]
  · rintro acc S2 ⟨rfl, rfl⟩
    rw [List.take_length]
    exact ⟨hP, k⟩
theorem lc_map {own : List Nat} {ug : UG} {tt : UT} {P : Store → Prop} {fin : List Dat → Store → KE → Prop} (f : Dat → Dat) (hP : P S) (hsz : xs.length ≤ sizeLine)
    (hs : ∀ (j : Nat) d (Kt : Dat → Store → Prop) (Kf : Store → Prop), xs[j]? = some d → Kt (f d) S →
      ug d (wipeD dl own) S (fun dl2 S3 => tt dl2 S3 (fun b S4 => if b = true then ue dl2 S4 Kt XF0 else Kf S4) XF0) XF0)
    (k : fin (xs.map f) S K) : ∃ I : Nat → List Dat → Store → Prop, I 0 [] S ∧
  (∀ (j : Nat) d acc S2, xs[j]? = some d → I j acc S2 → P S2 ∧ acc.length < sizeLine ∧ ug d (wipeD dl own) S2 (fun dl2 S3 => tt dl2 S3 (fun b S4 => if b = true then ue dl2 S4 (fun y S5 => I (j + 1) (acc ++ [y]) S5) XF0 else I (j + 1) acc S4) XF0) XF0) ∧
  ∀ acc S2, I xs.length acc S2 → P S2 ∧ fin acc S2 K :=
  lc_pick (fun d => some (f d)) hP hsz (fun j d Kt Kf hj h1 _ => hs j d Kt Kf hj (h1 _ rfl)) (by rw [show (fun d => some (f d)) = some ∘ f from rfl, List.filterMap_eq_map]; exact k)
theorem x_lcW {ui : UI} {own : List Nat} {ug : UG} {tt : UT} {fin : List Dat → Store → KE → Prop} (h : ui dl S (fun ds P S1 => ∃ I : Nat → List Dat → Store → Prop, I 0 [] S1 ∧
  (∀ (j : Nat) d acc S2, ds[j]? = some d → I j acc S2 → P S2 ∧ acc.length < sizeLine ∧ ug d (wipeD dl own) S2 (fun dl2 S3 => tt dl2 S3 (fun b S4 => if b = true then ue dl2 S4 (fun y S5 => I (j + 1) (acc ++ [y]) S5) XF0 else I (j + 1) acc S4) XF0) XF0) ∧
  ∀ acc S2, I ds.length acc S2 → P S2 ∧ fin acc S2 K) X) : uLcW ui own ug tt ue fin dl S K X := h
theorem x_lc {ui : UI} {own : List Nat} {ug : UG} {tt : UT} (h : uLcW ui own ug tt ue (fun acc S K => K (.lst acc) S) dl S K X) : uLc ui own ug tt ue dl S K X := h
theorem x_lcC {ui : UI} {own : List Nat} {ug : UG} {tt : UT} (h : uLcW ui own ug tt ue (fun acc S K => K (.cell S.length) (S ++ [.lst acc])) dl S K X) : uLcC ui own ug tt ue dl S K X := h
/-! ways out -/
theorem x_for {ui : UI} {ug : UG} {b : US} {D : DEnds} {dl : Env'} {S : Store} (h : ui dl S (fun ds P S1 => ∃ I : Nat → Env' → Store → Prop, I 0 dl S1 ∧
  (∀ (i : Nat) d dl1 S2, ds[i]? = some d → I i dl1 S2 → P S2 ∧ ug d dl1 S2 (fun dl2 S3 => b { D with nx := GcTo S1.length (I (i + 1)), ct := GcTo S1.length (I (i + 1)), bk := D.nx } dl2 S3) (fun e S3 => D.ex e dl1 S3)) ∧
  ∀ dl1 S2, I ds.length dl1 S2 → P S2 ∧ D.nx dl1 S2) (fun e S1 => D.ex e dl S1)) : uFor ui ug b D dl S := h
theorem x_slQ {KF : PySem.W.Frag} {dl : Env'} {S : Store} {K : KE} {X : KX} {ua : UE} {ul uh : UO} (h : ua dl S (fun d S1 => ul dl S1 (fun l S2 => uh dl S2 (fun h S3 => ∃ (ns ms : List Int), d = .sq KF ns ∧ cutV (ns.map V.int) l h = ms.map V.int ∧ K (.lst (ms.map .int)) S3) X) X) X) : uSlQ KF ua ul uh dl S K X := h
theorem x_putL {i : Nat} {dl : Env'} {P : Prop} (h : Nat.blt i dl.length = true) (k : P) : i < dl.length ∧ P := ⟨Nat.le_of_ble_eq_true h, k⟩
theorem x_szL {xs : List Dat} {P : Prop} (h : Nat.ble xs.length sizeLine = true) (k : P) : xs.length ≤ sizeLine ∧ P := ⟨Nat.le_of_ble_eq_true h, k⟩
theorem x_rtE {S : Store} {K : KE} {X : KX} {d : Dat} {S' : Store} (h : ExitTo S K d S') : (endsOf S K X).rt d S' := h
theorem x_iteT2 {c : Bool} {A B : Prop} (e : c = true) (h : A) : if c = true then A else B := by rw [if_pos e]; exact h
theorem x_iteF2 {c : Bool} {A B : Prop} (e : c = false) (h : B) : if c = true then A else B := by rw [if_neg (by rw [e]; decide)]; exact h
theorem below_ints {n : Nat} : ∀ ns : List Int, belows n (ns.map Dat.int)
  | [] => by simp only [List.map_nil, belows]
  | a :: r => by simp only [List.map_cons, belows, below, true_and]; exact below_ints r
/-- nothing of the caller's changes; what comes back has no cell of the def's own -/
theorem exit_pure {S0 R : Store} (hb : below S0.length d) (k : K d S0) : ExitTo S0 K d (S0 ++ R) := ⟨S0, d, ⟨⟨R, rfl⟩, Nat.le_refl _, .inl rfl⟩, .same hb, k⟩
theorem exit_here {S0 : Store} (hb : below S0.length d) (k : K d S0) : ExitTo S0 K d S0 := ⟨S0, d, ⟨⟨[], by simp⟩, Nat.le_refl _, .inl rfl⟩, .same hb, k⟩
theorem belows_set {n j : Nat} {ds : List Dat} (h : belows n ds) (hd : below n d) : belows n (ds.set j d) := by
  induction ds generalizing j with
  | nil => simpa using h
  | cons c ds ih =>
    simp only [belows] at h
    cases j with
    | zero => simp only [List.set_cons_zero, belows]; exact ⟨hd, h.2⟩
    | succ j => simp only [List.set_cons_succ, belows]; exact ⟨h.1, ih h.2⟩
/-- the caller's cell at b has changed -/
theorem exit_set {S0 R : Store} {b : Nat} {c : Dat} (hS : belows S0.length S0) (hc : below S0.length c) (hb : below S0.length d) (k : K d (S0.set b c)) : ExitTo S0 K d (S0.set b c ++ R) :=
  ⟨S0.set b c, d, ⟨⟨R, rfl⟩, by rw [List.length_set]; exact Nat.le_refl _, .inr (by rw [List.length_set]; exact belows_set hS hc)⟩, .same (by rw [List.length_set]; exact hb), k⟩
theorem exit_set0 {S0 : Store} {b : Nat} {c : Dat} (hS : belows S0.length S0) (hc : below S0.length c) (hb : below S0.length d) (k : K d (S0.set b c)) : ExitTo S0 K d (S0.set b c) := by
  have := exit_set (R := []) hS hc hb k
  rwa [List.append_nil] at this
end
/-- a new cell is handed out -/
theorem exit_new {S : Store} {K : KE} {c : Dat} (hS : belows S.length S) (hc : below S.length c) (k : K (.cell S.length) (S ++ [c])) : ExitTo S K (.cell S.length) (S ++ [c]) := by
  refine ⟨S ++ [c], .cell S.length, ⟨⟨[], by simp⟩, by simp, .inr ?_⟩, .same (by simp [below]), k⟩
  have : ∀ {n : Nat} {xs ys : List Dat}, belows n xs → belows n ys → belows n (xs ++ ys) := fun {n xs ys} h1 h2 => by
    induction xs with
    | nil => exact h2
    | cons x xs ih => simp only [belows, List.cons_append] at h1 ⊢; exact ⟨h1.1, ih h1.2⟩
  exact this (belows.mono (by simp) hS) (by simp only [belows, and_true]; exact below.mono (by simp) hc)
end DL
/-! DL10: the ends of the chain: a def without promise, the law's start. -/
namespace DL
open PySem L2
theorem cx_none {P : Program} {w : World} {outer : List Env} {H : Hp} {s : Shared} {e : Value} {s' : Shared} (h : L2.CX P w outer H s (fun _ _ _ => False) e s') : False := by
  obtain ⟨_, _, _, _, _, _, _, _, _, _, _, _, h⟩ := h
  exact h
section
variable {P : Program} {w : World} {K : PySem.W.Frag} {mg : Str → Option Value} {base : Heap} {x qual : Str} {params : Arguments} {body : List Stmt} {scope : Scope} {dvs : List V} {kws : List (Str × V)} {f : Addr} {fd fd2 : FuncData} {N ps : List Str} {k : Nat}
theorem fn_none [Tabl] (F : FunD K x qual params body scope dvs kws f fd) (Sc : FnScope N ps scope) : FnOk P w K mg base (L2.CX P w) (k + 1) f fd ps (spOf fun _ _ _ _ => False) :=
  F.ok Sc (fun vs H Q E h => by obtain ⟨_, _, _, _, _, _, _, _, h, _⟩ := h; exact h.elim) (fun cdv A outer s H vs Q E hr h => by obtain ⟨_, _, _, _, _, _, _, _, h, _⟩ := h; exact h.elim)
theorem funD_one (F : FunD K x qual params body scope dvs kws f fd) {x2 qual2 : Str} {params2 : Arguments} {body2 : List Stmt} {scope2 : Scope} {dvs2 : List V} {kws2 : List (Str × V)} (F2 : FunD K x2 qual2 params2 body2 scope2 dvs2 kws2 f fd2) : fd = fd2 := by
  obtain ⟨_, _, _, _, _, _, _, _, _, _, _, l, _⟩ := F.ex
  obtain ⟨_, _, _, _, _, _, _, _, _, _, _, l2, _⟩ := F2.ex
  rw [l] at l2
  injection l2 with l2
  injection l2 with _ _ l2
  injection l2
end
/-- the law's promise over data -/
def sp_law (K : PySem.W.Frag) : Spec := fun ds S Kt _ => ∃ ns : List Int, ds = [.sq K ns] ∧ ns.length ≤ 63 ∧ (∀ z ∈ ns, Builtin.Int.intBits z ≤ 1048576) ∧ S = [] ∧ ∀ S', Kt (.bl true) S'
theorem len_law {K : PySem.W.Frag} {ds S Kt X} (h : sp_law K ds S Kt X) : ds.length = 1 := by
  obtain ⟨ns, rfl, _⟩ := h
  rfl
/-- no table, no cell: a law without lambdas -/
class NoTab [Tabl] : Prop where
  cels : Tabl.cels = []
  own : ∀ v d, ¬ Tabl.own v d
theorem start_law [Tabl] [NoTab] {K : PySem.W.Frag} {H : Hp} {a : Addr} {ns : List Int} (hl : ns.length ≤ 63) (hb : ∀ z ∈ ns, Builtin.Int.intBits z ≤ 1048576) (hS : SqL K H a (ns.map V.int)) (hT : LamX.Tabs Tabl.tabs H) : spOf (sp_law K) [.ref a] H (fun v _ => v = .bl true) fun _ _ _ => False := by
  refine ⟨[.sq K ns], fun v d => v = .ref a ∧ d = .sq K ns, [], [], fun d _ => d = .bl true, fun _ _ => False, ⟨⟨rfl, rfl⟩, True.intro⟩, ⟨[], rfl, List.nodup_nil, fun n a d e => by simp at e, fun p hp => (List.not_mem_nil hp).elim, fun v d h => ?_, hT, fun a o e => (by rw [NoTab.cels] at e; cases e), fun v d h => (NoTab.own v d h).elim, fun p hp => (List.not_mem_nil hp).elim⟩, ⟨ns, rfl, hl, hb, rfl, fun _ => rfl⟩, ?_, fun _ _ _ _ _ _ _ _ h => h.elim⟩
  · obtain ⟨rfl, rfl⟩ := h
    simp only [RD]
    refine ⟨a, rfl, ?_⟩
    rcases hS with h | h
    · exact .inl ⟨List.not_mem_nil, h⟩
    · exact .inr (.inr h)
  · intro v d L' H' S' _ hp hs hk
    obtain ⟨rho, x⟩ := hs
    have q := x.rd _ _ hp
    rw [hk] at q
    simp only [RD] at q
    exact q
end DL
/-! DL11: instances over data: made, their fields, methods, properties. -/
namespace DL
open PySem PySem.Spec PyProof.Rows L2
/-- an instance as data: its class, its fields' names, what they hold -/
def insD (S : Store) : Dat → Option (Addr × List Str × List Dat)
  | .ins C ns xs => some (C, ns, xs)
  | .cell n => match S[n]? with
    | some (.ins C ns xs) => some (C, ns, xs)
    | _ => none
  | _ => none
section
variable {H : Hp} {L : LL} {S : Store} {T : List (Addr × HO)} {v : V} {d : Dat} {C : Addr} {ns : List Str} {xs : List Dat}
theorem SR.insOf [Tabl] (hs : SR H L S T) (p : L v d) (e : insD S d = some (C, ns, xs)) : ∃ a dx vs, v = .ref a ∧ H a = some (.ins C dx (ns.zip vs)) ∧ ns.length = vs.length ∧ SR H (LaddL L vs xs) S T ∧ Ls (LaddL L vs xs) vs xs := by
  obtain ⟨rho, x⟩ := hs
  have key : ∀ (vs : List V), RDs H (rho ++ T.map (·.1)) rho xs vs → SR H (LaddL L vs xs) S T ∧ Ls (LaddL L vs xs) vs xs := fun vs r => by
    have q := RDs.ls (LR := fun v d => RD H (rho ++ T.map (·.1)) rho d v) (fun _ _ h => h) r
    refine ⟨⟨rho, x.more fun v d z => ?_⟩, Ls.of q.length fun i w c e1 e2 => .inr ⟨i, e1, e2⟩⟩
    rcases z with z | ⟨i, e1, e2⟩
    · exact .inl z
    · obtain ⟨w, e3, r⟩ := q.get e2
      rw [e1] at e3
      injection e3 with e3
      subst e3
      exact .inr r
  cases d with
  | ins C' ns' xs' =>
    simp only [insD, Option.some.injEq, Prod.mk.injEq] at e
    obtain ⟨rfl, rfl, rfl⟩ := e
    have q := x.rd v _ p
    simp only [RD] at q
    obtain ⟨a, dx, vs, e, _, r1, hl, r⟩ := q
    exact ⟨a, dx, vs, e, r1, hl, key vs r⟩
  | cell n =>
    obtain ⟨a, ha, ev⟩ := x.at_ p
    have e : (match S[n]? with
      | some (.ins C ns xs) => some (C, ns, xs)
      | _ => none) = some (C, ns, xs) := e
    cases q : S[n]? with
    | none => rw [q] at e; cases e
    | some d' =>
      rw [q] at e
      cases d' with
      | ins C' ns' xs' =>
        simp only [Option.some.injEq, Prod.mk.injEq] at e
        obtain ⟨rfl, rfl, rfl⟩ := e
        obtain ⟨dx, vs, e1, hl, r⟩ := x.node n a _ ha q
        exact ⟨a, dx, vs, ev, e1, hl, key vs r⟩
      | _ => cases e
  | _ => cases e
theorem SR.beside [Tabl] (hs : SR H L S T) {p : Addr} {o : HO} (hp : H p = none) : SR (upd H p o) L S T := let ⟨rho, x⟩ := hs; ⟨rho, x.new hp⟩
end
theorem zip_none {α : Type} {f : Str} : ∀ {ns : List Str} {vs : List α}, f ∉ ns → (ns.zip vs).lookup f = none
  | [], _, _ => by simp
  | n :: ns, [], _ => by simp
  | n :: ns, v :: vs, h => by
    have h1 : f ≠ n := fun z => h (by rw [z]; exact List.mem_cons_self)
    have h2 : f ∉ ns := fun z => h (List.mem_cons_of_mem _ z)
    rw [List.zip_cons_cons, List.lookup_cons]
    have e : (f == n) = false := by simpa using h1
    rw [e]
    exact zip_none h2
theorem zip_some {L : LL} {f : Str} {x : Dat} : ∀ {ns : List Str} {vs : List V} {xs : List Dat}, Ls L vs xs → (ns.zip xs).lookup f = some x → ∃ v, (ns.zip vs).lookup f = some v ∧ L v x
  | [], vs, xs, _, h => by simp at h
  | n :: ns, [], [], _, h => by simp at h
  | n :: ns, [], _ :: _, q, _ => q.elim
  | n :: ns, _ :: _, [], q, _ => q.elim
  | n :: ns, v :: vs, y :: xs, q, h => by
    rw [List.zip_cons_cons, List.lookup_cons] at h ⊢
    cases e : (f == n) with
    | true =>
      rw [e] at h
      injection h with h
      subst h
      exact ⟨v, rfl, q.1⟩
    | false =>
      rw [e] at h
      exact zip_some q.2 h
/-- a field's name, its data put in -/
def putN (f : Str) : List Str → List Str
  | [] => [f]
  | g :: r => if g = f then g :: r else g :: putN f r
def putX {α : Type} (f : Str) (y : α) : List Str → List α → List α
  | [], _ => [y]
  | g :: r, x :: xs => if g = f then y :: xs else x :: putX f y r xs
  | _ :: _, [] => []
theorem put_zip {f : Str} {v : V} : ∀ {ns : List Str} {vs : List V}, ns.length = vs.length → L2.putF f v (ns.zip vs) = (putN f ns).zip (putX f v ns vs) ∧ (putN f ns).length = (putX f v ns vs).length
  | [], [], _ => ⟨rfl, rfl⟩
  | [], _ :: _, h => by simp at h
  | _ :: _, [], h => by simp at h
  | n :: ns, w :: vs, h => by
    obtain ⟨i1, i2⟩ := put_zip (f := f) (v := v) (ns := ns) (vs := vs) (by simpa using h)
    unfold putN putX
    rw [List.zip_cons_cons]
    unfold L2.putF
    by_cases e : n = f
    · simp only [e, if_true]
      exact ⟨rfl, by simpa using h⟩
    · simp only [if_neg e]
      rw [i1]
      exact ⟨rfl, by simp [i2]⟩
theorem put_ls {L : LL} {f : Str} {v : V} {y : Dat} (p : L v y) : ∀ {ns : List Str} {vs : List V} {xs : List Dat}, Ls L vs xs → ns.length = vs.length → Ls L (putX f v ns vs) (putX f y ns xs)
  | [], [], [], _, _ => ⟨p, True.intro⟩
  | [], _ :: _, _, _, h => by simp at h
  | _ :: _, [], _, _, h => by simp at h
  | [], [], _ :: _, q, _ => q.elim
  | n :: ns, w :: vs, [], q, _ => q.elim
  | n :: ns, w :: vs, x :: xs, q, h => by
    unfold putX
    by_cases e : n = f
    · simp only [e, if_true]; exact ⟨p, q.2⟩
    · simp only [if_neg e]; exact ⟨q.1, put_ls p q.2 (by simpa using h)⟩
/-! ### fields -/
def uFld (Cs : List Addr) (f : Str) (ua : UE) : UE := fun dl S K X => ua dl S (fun d S1 => ∃ C ns xs x, C ∈ Cs ∧ insD S1 d = some (C, ns, xs) ∧ (ns.zip xs).lookup f = some x ∧ K x S1) X
def uSetF (Cs : List Addr) (f : Str) (uo uv : UE) : US := fun D dl S => uv dl S (fun y S1 => uo dl S1 (fun d S2 => ∃ n C ns xs, d = .cell n ∧ S2[n]? = some (.ins C ns xs) ∧ C ∈ Cs ∧ ns.length < 1000 ∧
  D.nx dl (S2.set n (.ins C (putN f ns) (putX f y ns xs)))) (fun e S2 => D.ex e dl S2)) (fun e S1 => D.ex e dl S1)
section
variable {X : Cx} {W : WX} {a o value : Expr} {ta to tv : TE} {ua uo uv : UE} {f : Str} {pos pos' : Pos} {Cs : List Addr}
theorem imp_fld [Tabl] {KK : PySem.W.Frag} (hC : ∀ C ∈ Cs, Cls KK C ∧ NoAttr KK C f) (ha : ImpE W ta ua) : ImpE W (tFld KK ta f) (uFld Cs f ua) := fun {sg dl L H S T K X' Q} he hs h hq hx =>
  ha he hs h (fun v d L1 H1 S1 l1 p1 s1 ⟨C, ns, xs, x, hm, hi, hl, hk⟩ => by
    obtain ⟨b, dx, vs, e, eb, _, s2, q⟩ := s1.insOf p1 hi
    obtain ⟨w, hw, pw⟩ := zip_some q hl
    exact ⟨b, C, dx, _, w, e, eb, (hC C hm).1, (hC C hm).2, hw, hq w x _ H1 S1 (l1.trans LaddL.le) pw s2 hk⟩) hx
theorem de_fld [Tabl] (hC : ∀ C ∈ Cs, Cls X.K C ∧ NoAttr X.K C f) (ha : DE X W a ta ua) (hb : attributeBase a f X.env (eval a X.env) = eval a X.env := by rfl) : DE X W (.Attribute a f pos) (tFld X.K ta f) (uFld Cs f ua) := ⟨pe_fld ha.run hb, imp_fld hC ha.imp⟩
theorem de_fldK [Tabl] (KK : PySem.W.Frag) (hK : X.K = KK) (hC : ∀ C ∈ Cs, Cls KK C ∧ NoAttr KK C f) (ha : DE X W a ta ua) (hb : attributeBase a f X.env (eval a X.env) = eval a X.env := by rfl) : DE X W (.Attribute a f pos) (tFld KK ta f) (uFld Cs f ua) := by
  subst hK; exact de_fld hC ha hb
theorem ds_fld [Tabl] (hC : ∀ C ∈ Cs, Cls X.K C ∧ NoAttr X.K C f) (ho : DE X W o to uo) (hv : DE X W value tv uv) (hs : swapsWith value (some (.Attribute o f pos')) pos.line X.env = pure false := by rfl) :
    DS X W (.Assign [.Attribute o f pos'] value pos) (sFld X.K to tv f) (uSetF Cs f uo uv) :=
  ⟨ps_fld ho.run hv.run hs, fun {sg dl L H S T D D'} he hs h hD => hv.imp he hs h (fun y dy L1 H1 S1 l1 p1 s1 h1 => ho.imp (he.le l1) s1 h1 (fun v d L2 H2 S2 l2 p2 s2 ⟨n, C, ns, xs, hd, hn, hm, hl, hk⟩ => by
    subst hd
    obtain ⟨b, dx, vs, e, eb, len, s3, q⟩ := s2.insOf p2 (C := C) (ns := ns) (xs := xs) (by show (match S2[n]? with | some (.ins C ns xs) => some (C, ns, xs) | _ => none) = _; rw [hn])
    subst e
    obtain ⟨z1, z2⟩ := put_zip (f := f) (v := y) len
    refine ⟨b, C, dx, _, rfl, eb, (hC C hm).1, (hC C hm).2, by rw [List.length_zip]; omega, ?_⟩
    rw [z1]
    have p3 : LaddL L2 vs xs y dy := LaddL.le _ _ (l2 _ _ p1)
    have s4 := s3.set (n := n) (a := b) (d := .ins C (putN f ns) (putX f dy ns xs)) (o := .ins C dx ((putN f ns).zip (putX f y ns vs))) (vs := putX f y ns vs) (LaddL.le _ _ p2) ⟨⟨dx, rfl⟩, z2⟩ (put_ls p3 q len)
    exact hD.nx sg dl _ _ _ ((l1.trans l2).trans LaddL.le) rfl (he.le ((l1.trans l2).trans LaddL.le)) s4 hk) ((hD.le l1).ex.x rfl (he.le l1))) (hD.ex.x rfl he)⟩
end
end DL
/-! DL12: methods, properties, the making of instances. -/
namespace DL
open PySem L2
/-- the class at C has a def m that keeps F -/
def MethV [Tabl] (P : Program) (w : World) (K : PySem.W.Frag) (mg : Str → Option Value) (base : Heap) (k : Nat) (m : Str) (ps : List Str) (dd : List Dat) (dvs : List V) (C : Addr) (F : Spec) : Prop :=
  ∃ f fd dl, Cls K C ∧ Meth K C m f ∧ FnOk P w K mg base (L2.CX P w) k f fd ps (spOf F) ∧ Binds K fd ps dl ∧ Vals dvs dl ∧ Flats dd dvs
/-- .. as a property -/
def PropV [Tabl] (P : Program) (w : World) (K : PySem.W.Frag) (mg : Str → Option Value) (base : Heap) (k : Nat) (m : Str) (C : Addr) (F : Spec) : Prop :=
  ∃ p g fd, Cls K C ∧ PropOf K C m p g ∧ FnOk P w K mg base (L2.CX P w) k g fd ["self"] (spOf F) ∧ Binds K fd ["self"] []
/-- .. as its maker -/
def MakeV [Tabl] (P : Program) (w : World) (K : PySem.W.Frag) (mg : Str → Option Value) (base : Heap) (k : Nat) (ps : List Str) (dd : List Dat) (dvs : List V) (C : Addr) (F : Spec) : Prop :=
  ∃ f fd dl, Mk K C f ∧ FnOk P w K mg base (L2.CX P w) k f fd ps (spOf F) ∧ Binds K fd ps dl ∧ Vals dvs dl ∧ Flats dd dvs
/-- .. made with keywords: n the written arguments with the new one, ks the keywords; gV, gD: how they lie -/
def MakeKV [Tabl] (P : Program) (w : World) (K : PySem.W.Frag) (mg : Str → Option Value) (base : Heap) (k : Nat) (ps : List Str) (n : Nat) (ks : List Str) (gV : List V → List V → List V) (gD : List Dat → List Dat → List Dat) (C : Addr) (F : Spec) : Prop :=
  ∃ f fd g, Mk K C f ∧ FnOk P w K mg base (L2.CX P w) k f fd ps (spOf F) ∧ KBn K fd ps n ks g gV ∧ ∀ {H L S T} {vs : List V} {ds : List Dat} {zs : List V} {es : List Dat}, SR H L S T → Ls L vs ds → Ls L zs es → ∃ L', Lle L L' ∧ Ls L' (gV vs zs) (gD ds es) ∧ SR H L' S T
/-! ### methods -/
def tMethD [Tabl] (MS : List (Addr × Spec)) (m : Str) (dvs : List V) (E : St → XK) (ta : TE) (t : TA) : TE := fun sg H Q => ta sg H fun x H1 => ∃ a C dx fs F, x = .ref a ∧ H1 a = some (.ins C dx fs) ∧ fs.lookup m = none ∧ (C, F) ∈ MS ∧
  t sg H1 fun vs H2 => spOf F (x :: (vs ++ dvs)) H2 Q (E sg)
def uMeth (MS : List (Addr × Spec)) (m : Str) (dd : List Dat) (uo : UE) (ua : UA) : UE := fun dl S K X => uo dl S (fun d S1 => ∃ C ns xs F, insD S1 d = some (C, ns, xs) ∧ m ∉ ns ∧ (C, F) ∈ MS ∧ ua dl S1 (fun ds S2 => F (d :: (ds ++ dd)) S2 K X) X) X
def uProp (MS : List (Addr × Spec)) (uo : UE) : UE := fun dl S K X => uo dl S (fun d S1 => ∃ C ns xs F, insD S1 d = some (C, ns, xs) ∧ (C, F) ∈ MS ∧ F [d] S1 K fun _ _ => False) X
def tPropD [Tabl] (MS : List (Addr × Spec)) (ta : TE) : TE := fun sg H Q => ta sg H fun x H1 => ∃ a C dx fs F, x = .ref a ∧ H1 a = some (.ins C dx fs) ∧ (C, F) ∈ MS ∧ spOf F [.ref a] H1 Q fun _ _ _ => False
section
variable {X : Cx} {W : WX} {k j : Nat} {m x : Str} {ps : List Str} {dd : List Dat} {dvs : List V} {MS : List (Addr × Spec)} {o e : Expr} {es : List Expr} {to : TE} {uo : UE} {t : TA} {u : UA} {apos pos p : Pos} {E : St → XK} {pl : Sem Bool}
theorem pe_methD [Tabl] (hM : ∀ q ∈ MS, MethV X.prog X.w X.K X.mg X.base k m ps dd dvs q.1 q.2) (hr : Room k X.A) (he : PE X o to) (hx : ∀ sg, PassesAt (L2.CX X.prog X.w) X sg (E sg)) (ha : PA X (e :: es) t)
    (hst : starEach (e :: es) X.env = (false, eval e X.env) :: starEach es X.env) (hpl : (backTo pos (starEach es X.env)).any (·.1) = false)
    (ht : eval (.Call (.Attribute o m apos) (e :: es) [] pos) X.env = (do
      let ov ← eval o X.env
      standAt apos.atName
      let (f, first) ← holding [ov] (getMethod ov m pl)
      callWith pos f first (backTo pos (starEach (e :: es) X.env)) (backToKw pos (keywordEach [] X.env)))) : PE X (.Call (.Attribute o m apos) (e :: es) [] pos) (tMethD MS m dvs E to t) := by
  constructor
  intro pins s sg H Q I h
  refine PySem.W.methodCall_KW (pl := pl) (thn (he.run pins s sg H _ I h) fun u s1 ⟨y, H1, I1, ry, a, C, dx, fs, F, ey, ea, l, hm, q⟩ => ?_) ht
  subst ey
  obtain rfl : u = Value.ref a := ry
  obtain ⟨f, fd, dl, c, M, G, b, vd, _⟩ := hM _ hm
  refine getmeth_ok I1 ea c M l ?_
  refine PySem.W.callWith_K (first := [.ref a]) (h₀ := X.base) I.ok.mod.kin M.kp ?_ hst hpl
  exact thn (ha.run pos pins s1 sg H1 _ I1 q) fun us s2 ⟨vs, H2, I2, r, q2⟩ => ⟨I2.kIn, run_fnSD (us := .ref a :: us) (vs := .ref a :: vs) G hr b vd (hx sg) I2 (.cons rfl r) q2⟩
theorem pe_methD0 [Tabl] (hM : ∀ q ∈ MS, MethV X.prog X.w X.K X.mg X.base k m ps dd dvs q.1 q.2) (hr : Room k X.A) (he : PE X o to) (hx : ∀ sg, PassesAt (L2.CX X.prog X.w) X sg (E sg))
    (ht : eval (.Call (.Attribute o m apos) [] [] pos) X.env = (do
      let ov ← eval o X.env
      standAt apos.atName
      let (f, first) ← holding [ov] (getMethod ov m pl)
      callWith pos f first (backTo pos (starEach [] X.env)) (backToKw pos (keywordEach [] X.env)))) : PE X (.Call (.Attribute o m apos) [] [] pos) (tMethD MS m dvs E to tNil) := by
  constructor
  intro pins s sg H Q I h
  refine PySem.W.methodCall_KW (pl := pl) (thn (he.run pins s sg H _ I h) fun u s1 ⟨y, H1, I1, ry, a, C, dx, fs, F, ey, ea, l, hm, q⟩ => ?_) ht
  subst ey
  obtain rfl : u = Value.ref a := ry
  obtain ⟨f, fd, dl, c, M, G, b, vd, _⟩ := hM _ hm
  refine getmeth_ok I1 ea c M l ?_
  exact PySem.W.callWith_K0 (first := [.ref a]) I1.kIn M.kp (run_fnSD (us := [.ref a]) (vs := [.ref a]) G hr b vd (hx sg) I1 (.cons rfl .nil) q)
theorem imp_meth [Tabl] (hM : ∀ q ∈ MS, Flats dd dvs) (ho : ImpE W to uo) (ha : ImpA W t u) : ImpE W (tMethD MS m dvs (WE W) to t) (uMeth MS m dd uo u) := fun {sg dl L H S T K X' Q} he hs h hq hx =>
  ho he hs h (fun v d L1 H1 S1 l1 p1 s1 ⟨C, ns, xs, F, hi, hn, hm, h1⟩ => by
    obtain ⟨b, dx, vs, ev, eb, _, s2, q⟩ := s1.insOf p1 hi
    subst ev
    refine ⟨b, C, dx, _, F, rfl, eb, zip_none hn, hm, ?_⟩
    refine ha (he.le (l1.trans LaddL.le)) s2 h1 (fun ws ds L3 H3 S3 l3 p3 s3 h3 => ?_) (hx.le (l1.trans LaddL.le))
    obtain ⟨L4, l4, p4, s4⟩ := s3.flats (hM _ hm)
    have l04 := ((l1.trans LaddL.le).trans l3).trans l4
    exact ⟨d :: (ds ++ dd), L4, S3, T, K, X', ⟨l4 _ _ (l3 _ _ (LaddL.le _ _ p1)), (p3.le l4).append p4⟩, s4, h3, hq.le l04, fun e dd L' H' S' l => hx e dd L' H' S' (l04.trans l)⟩) hx
theorem de_meth [Tabl] (hM : ∀ q ∈ MS, MethV X.prog X.w X.K X.mg X.base k m ps dd dvs q.1 q.2) (hr : Room j X.A) (hj : k ≤ j) (tk : Takes X W) (ho : DE X W o to uo) (ha : DA X W (e :: es) t u)
    (ht : eval (.Call (.Attribute o m apos) (e :: es) [] pos) X.env = (do
      let ov ← eval o X.env
      standAt apos.atName
      let (f, first) ← holding [ov] (getMethod ov m pl)
      callWith pos f first (backTo pos (starEach (e :: es) X.env)) (backToKw pos (keywordEach [] X.env))) := by rfl)
    (hst : starEach (e :: es) X.env = (false, eval e X.env) :: starEach es X.env := by rfl) (hpl : (backTo pos (starEach es X.env)).any (·.1) = false := by rfl) :
    DE X W (.Call (.Attribute o m apos) (e :: es) [] pos) (tMethD MS m dvs (WE W) to t) (uMeth MS m dd uo u) :=
  ⟨pe_methD hM (hr.mono hj) ho.run (fun sg => passAt tk sg) ha.run hst hpl ht, imp_meth (fun q hq => by obtain ⟨_, _, _, _, _, _, _, _, z⟩ := hM q hq; exact z) ho.imp ha.imp⟩
theorem de_meth0 [Tabl] (hM : ∀ q ∈ MS, MethV X.prog X.w X.K X.mg X.base k m ps dd dvs q.1 q.2) (hr : Room j X.A) (hj : k ≤ j) (tk : Takes X W) (ho : DE X W o to uo)
    (ht : eval (.Call (.Attribute o m apos) [] [] pos) X.env = (do
      let ov ← eval o X.env
      standAt apos.atName
      let (f, first) ← holding [ov] (getMethod ov m pl)
      callWith pos f first (backTo pos (starEach [] X.env)) (backToKw pos (keywordEach [] X.env))) := by rfl) :
    DE X W (.Call (.Attribute o m apos) [] [] pos) (tMethD MS m dvs (WE W) to tNil) (uMeth MS m dd uo uNil) :=
  ⟨pe_methD0 hM (hr.mono hj) ho.run (fun sg => passAt tk sg) ht, imp_meth (fun q hq => by obtain ⟨_, _, _, _, _, _, _, _, z⟩ := hM q hq; exact z) ho.imp (da_nil (X := X)).imp⟩
/-! ### properties -/
/-! ### making -/
def tMakeD [Tabl] (C : Addr) (F : Spec) (dvs : List V) (E : St → XK) (t : TA) : TE := fun sg H Q => t sg H fun vs H1 => ∀ x dx, H1 x = none → H1 dx = none → dx ≠ x →
  spOf F (.ref x :: (vs ++ dvs)) (upd (upd H1 dx (.own x)) x (.ins C dx [])) (fun v H2 => v = .non ∧ Q (.ref x) H2) (E sg)
def uMake (C : Addr) (F : Spec) (dd : List Dat) (ua : UA) : UE := fun dl S K X => ua dl S (fun ds S1 => F (.cell S1.length :: (ds ++ dd)) (S1 ++ [.ins C [] []]) (fun d S2 => d = .non ∧ ExitTo S1 K (.cell S1.length) S2) (fun e S2 => ExitX S1 X e [] S2)) X
theorem run_mkD {C f : Addr} {fd : FuncData} {dl : List Value} {sp : Sp} {Ex : XK} {pins : List (Addr × Obj)} {sg : St} {H : Hp} {s : Shared} {Q : VK} {us : List Value} {vs : List V} (M : Mk X.K C f) (G : FnOk X.prog X.w X.K X.mg X.base (L2.CX X.prog X.w) k f fd ps sp) (hr : Room (k + 1) X.A) (b : Binds X.K fd ps dl) (vd : Vals dvs dl)
    (hx : PassesAt (L2.CX X.prog X.w) X sg Ex) (I : Inv X pins sg H s) (r : Vals vs us) (h : ∀ x dx, H x = none → H dx = none → dx ≠ x → sp (.ref x :: (vs ++ dvs)) (upd (upd H dx (.own x)) x (.ins C dx [])) (fun v H2 => v = .non ∧ Q (.ref x) H2) Ex) :
    wpAny (model X.prog X.w) X.A (call (.ref C) us) (EP X pins sg Q) X.xe s := by
  have J := Inv.made (C := C) I
  have hq := h _ _ (I.hok.fresh (Nat.le_succ _)) (I.hok.fresh (Nat.le_refl _)) (Nat.ne_of_lt (Nat.lt_succ_self _))
  have rr : Vals (V.ref (s.heap.objs.size + 1) :: (vs ++ dvs)) (Value.ref (s.heap.objs.size + 1) :: (us ++ dl)) := .cons rfl (r.append vd)
  have hlen : (Value.ref (s.heap.objs.size + 1) :: us ++ dl).length = ps.length := by
    rw [show (Value.ref (s.heap.objs.size + 1) :: us ++ dl).length = _ from rr.length.symm]
    exact G.len _ _ _ _ hq
  have go := G.run _ X.stack _ _ ⟨Value.ref (s.heap.objs.size + 1) :: us, []⟩ (Value.ref (s.heap.objs.size + 1) :: (us ++ dl)) _ _ Ex (hr.make C us []) (J.env0.make C us []) (b _ (Value.ref (s.heap.objs.size + 1) :: us) J.kIn hlen) rr hq
  refine wpAny_call (make_map (f := f) I.kIn M.makes M.init (beq_iff_eq.mp M.fn) (codeAny_mono go fun res s' z => ?_))
  cases res with
  | error er => exact hx pins _ _ er s' J z
  | ok fl =>
    cases fl with
    | ret u =>
      obtain ⟨v, H', J2, rv, ev, q3⟩ := J.after z
      subst ev
      exact ⟨rv, V.ref (s.heap.objs.size + 1), H', J2, rfl, q3⟩
    | _ => exact z.elim
/-- what a maker's promise over data gives -/
theorem made_imp [Tabl] {C : Addr} {F : Spec} {sg : St} {L : LL} {H : Hp} {S : Store} {T : List (Addr × HO)} {K : KE} {X' : KX} {Q : VK} {vs : List V} {ds : List Dat} {x dx : Addr} (hs : SR H L S T) (p : Ls L vs ds)
    (h : F (.cell S.length :: ds) (S ++ [.ins C [] []]) (fun d S2 => d = .non ∧ ExitTo S K (.cell S.length) S2) (fun e S2 => ExitX S X' e [] S2)) (hq : EOk L T K Q) (hx : XOk W sg L T X') (nx : H x = none) (nd : H dx = none) (ne : dx ≠ x) :
    spOf F (.ref x :: vs) (upd (upd H dx (.own x)) x (.ins C dx [])) (fun v H2 => v = .non ∧ Q (.ref x) H2) (WE W sg) := by
  have s1 : SR (upd H dx (.own x)) L S T := hs.beside nd
  have nx1 : upd H dx (.own x) x = none := by rw [upd_ne (Ne.symm ne)]; exact nx
  have s2 : SR (upd (upd H dx (.own x)) x (.ins C dx [])) (Ladd L (.ref x) (.cell S.length)) (S ++ [.ins C [] []]) T := s1.cell (d := .ins C [] []) (vs := []) nx1 ⟨⟨dx, rfl⟩, rfl⟩ True.intro
  refine ⟨.cell S.length :: ds, _, _, T, _, _, ⟨Ladd.here, p.le Ladd.le⟩, s2, h, fun v d L3 H3 S3 l3 p3 s3 ⟨hd, S4, d', o, r, k⟩ => ?_, fun e de L3 H3 S3 l3 p3 s3 ⟨S4, ys, o, r, k⟩ => ?_⟩
  · subst hd
    obtain ⟨L4, l4, p4, s4⟩ := Out.go o r hs (Ladd.le.trans l3) s3 (l3 _ _ Ladd.here)
    refine ⟨?_, hq _ _ L4 H3 S4 l4 p4 s4 k⟩
    obtain ⟨rho, z⟩ := s3
    have z := z.rd _ _ p3
    simp only [RD] at z
    exact z
  · obtain ⟨L4, l4, p4, s4⟩ := Out.go o r hs (Ladd.le.trans l3) s3 p3
    exact hx ⟨e.C, e.ns, ys⟩ de L4 H3 S4 l4 p4 s4 k
theorem de_make [Tabl] {C : Addr} {F : Spec} (c : MakeV X.prog X.w X.K X.mg X.base k ps dd dvs C F) (hr : Room j X.A) (hj : k + 1 ≤ j) (hm : X.mg x = some (.ref C)) (tk : Takes X W) (ha : DA X W (e :: es) t u) (hg : Gl X x := by rfl)
    (hdb : (x == ("__debug__" : Str)) = false := by decide) (he : starEach (e :: es) X.env = (false, eval e X.env) :: starEach es X.env := by rfl) (hpl : (backTo pos (starEach es X.env)).any (·.1) = false := by rfl) :
    DE X W (.Call (.Name x p) (e :: es) [] pos) (tMakeD C F dvs (WE W) t) (uMake C F dd u) := by
  obtain ⟨f, fd, dl, M, G, b, vd, fl⟩ := c
  refine ⟨⟨fun pins s sg H Q I h => ?_⟩, fun {sg dl' L H S T K X' Q} he' hs h hq hx => ?_⟩
  · refine wpAny_Call_Name_kw (ld_glob I hg hm ?_ hdb)
    refine PySem.W.callWith_K (h₀ := X.base) I.ok.mod.kin M.kp ?_ he hpl
    exact thn (ha.run.run pos pins s sg H _ I h) fun us s1 ⟨vs, H1, I1, r, q⟩ => ⟨I1.kIn, run_mkD M G (hr.mono hj) b vd (passAt tk sg) I1 r q⟩
  · refine ha.imp he' hs h (fun vs ds L1 H1 S1 l1 p1 s1 h1 x dx nx nd ne => ?_) hx
    obtain ⟨L2, l2, p2, s2⟩ := s1.flats fl
    exact made_imp s2 ((p1.le l2).append p2) h1 (hq.le (l1.trans l2)) (hx.le (l1.trans l2)) nx nd ne
end
end DL
/-! DL13: enumerate; min; what is never reached; making with keywords. -/
namespace DL
open PySem L2
/-! ### what is never reached -/
def uDead : US := fun _ _ _ => False
def uDeadE : UE := fun _ _ _ _ => False
/-! ### min -/
def gMin2 : GL := fun ds S K => match ds with
  | [.int i, .int j] => K (.int (if j < i then j else i)) S
  | _ => False
def gMax2 : GL := fun ds S K => match ds with
  | [.int i, .int j] => K (.int (if j > i then j else i)) S
  | _ => False
section
variable {X : Cx} {S : Store} {K : KE} {i j : Int}
theorem x_min2 (k : K (.int (if j < i then j else i)) S) : gMin2 [.int i, .int j] S K := k
theorem x_max2 (k : K (.int (if j > i then j else i)) S) : gMax2 [.int i, .int j] S K := k
end
/-! ### enumerate -/
def enumD (k : Int) : List Dat → List Dat
  | [] => []
  | x :: xs => .tup [.int k, x] :: enumD (k + 1) xs
def uEn (ua : UA) : UI := fun dl S R X => ua dl S (fun ds S1 => match ds with
  | [a] => ∃ xs, lstD S1 a = some xs ∧ R (enumD 0 xs) (fun S => lstD S a = some xs) S1
  | _ => False) X
section
variable {X : Cx} {W : WX} {e : Expr} {ta : TA} {ua : UA} {p pos tpos : Pos} {elts : List Expr} {kk : Nat}
theorem x_en {dl : Env'} {S : Store} {R : List Dat → (Store → Prop) → Store → Prop} {X : KX} (h : ua dl S (fun ds S1 => match ds with
  | [a] => ∃ xs, lstD S1 a = some xs ∧ R (enumD 0 xs) (fun S => lstD S a = some xs) S1
  | _ => False) X) : uEn ua dl S R X := h
end
/-! ### steps -/
section
variable {dl : Env'} {S : Store} {K : KE} {X : KX} {D : DEnds} {ua uo uv : UE} {u : UA} {Cs : List Addr} {MS : List (Addr × Spec)} {f m : Str} {C : Addr} {F : Spec} {dd : List Dat}
theorem x_fld (h : ua dl S (fun d S1 => ∃ C ns xs x, C ∈ Cs ∧ insD S1 d = some (C, ns, xs) ∧ (ns.zip xs).lookup f = some x ∧ K x S1) X) : uFld Cs f ua dl S K X := h
theorem x_setF (h : uv dl S (fun y S1 => uo dl S1 (fun d S2 => ∃ n C ns xs, d = .cell n ∧ S2[n]? = some (.ins C ns xs) ∧ C ∈ Cs ∧ ns.length < 1000 ∧
  D.nx dl (S2.set n (.ins C (putN f ns) (putX f y ns xs)))) (fun e S2 => D.ex e dl S2)) (fun e S1 => D.ex e dl S1)) : uSetF Cs f uo uv D dl S := h
theorem x_meth (h : uo dl S (fun d S1 => ∃ C ns xs F, insD S1 d = some (C, ns, xs) ∧ m ∉ ns ∧ (C, F) ∈ MS ∧ u dl S1 (fun ds S2 => F (d :: (ds ++ dd)) S2 K X) X) X) : uMeth MS m dd uo u dl S K X := h
theorem x_prop (h : uo dl S (fun d S1 => ∃ C ns xs F, insD S1 d = some (C, ns, xs) ∧ (C, F) ∈ MS ∧ F [d] S1 K fun _ _ => False) X) : uProp MS uo dl S K X := h
theorem x_make (h : u dl S (fun ds S1 => F (.cell S1.length :: (ds ++ dd)) (S1 ++ [.ins C [] []]) (fun d S2 => d = .non ∧ ExitTo S1 K (.cell S1.length) S2) (fun e S2 => ExitX S1 X e [] S2)) X) : uMake C F dd u dl S K X := h
end
/-! ### making with keywords -/
structure DK [Tabl] (X : Cx) (W : WX) (kws : List Keyword) (t : TA) (u : UA) : Prop where
  run : PK X kws t
  imp : ImpA W t u
def tMakeKD [Tabl] (C : Addr) (n m : Nat) (F : Spec) (gV : List V → List V → List V) (E : St → XK) (t tk : TA) : TE := fun sg H Q => t sg H fun vs H1 => tk sg H1 fun zs H2 => vs.length = n ∧ zs.length = m ∧ ∀ x dx, H2 x = none → H2 dx = none → dx ≠ x →
  spOf F (gV (.ref x :: vs) zs) (upd (upd H2 dx (.own x)) x (.ins C dx [])) (fun v H3 => v = .non ∧ Q (.ref x) H3) (E sg)
end DL
/-! DL14: lists of things told by a function; loops by what is done; the store around a bag. -/
namespace DL
open PySem L2
theorem alln {P : Addr → Prop} : ∀ C ∈ ([] : List Addr), P C := fun _ h => nomatch h
theorem allc {α : Type} {P : α → Prop} {a : α} {l : List α} (h : P a) (r : ∀ C ∈ l, P C) : ∀ C ∈ a :: l, P C := fun C m => by
  rcases List.mem_cons.mp m with e | e
  · subst e; exact h
  · exact r C e
theorem allnS {α : Type} {P : α → Prop} : ∀ C ∈ ([] : List α), P C := fun _ h => nomatch h
section
variable {α β : Type} {dl : Env'} {S : Store} {K : KE} {X : KX} {D : DEnds} {ug : UG} {tt : UT} {ue : UE} {P : Store → Prop} {own : List Nat}
/-- a comprehension over xs.map e: f of the items that p takes -/
theorem lc_T (xs : List α) (e : α → Dat) {p : α → Bool} {f : α → Dat} {G : List Dat → Store → Prop} (hP : P S) (hsz : xs.length ≤ sizeLine)
    (hs : ∀ a, a ∈ xs → ∀ (Kt : Dat → Store → Prop) (Kf : Store → Prop), (p a = true → Kt (f a) S) → (p a = false → Kf S) →
      ug (e a) (wipeD dl own) S (fun dl2 S3 => tt dl2 S3 (fun b S4 => if b = true then ue dl2 S4 Kt XF0 else Kf S4) XF0) XF0)
    (k : G ((xs.filter p).map f) S) : ∃ I : Nat → List Dat → Store → Prop, I 0 [] S ∧
  (∀ (j : Nat) d acc S2, (xs.map e)[j]? = some d → I j acc S2 → P S2 ∧ acc.length < sizeLine ∧ ug d (wipeD dl own) S2 (fun dl2 S3 => tt dl2 S3 (fun b S4 => if b = true then ue dl2 S4 (fun y S5 => I (j + 1) (acc ++ [y]) S5) XF0 else I (j + 1) acc S4) XF0) XF0) ∧
  ∀ acc S2, I (xs.map e).length acc S2 → P S2 ∧ G acc S2 := by
  refine ⟨fun j acc S2 => S2 = S ∧ acc = ((xs.take j).filter p).map f, ⟨rfl, by simp⟩, fun j d acc S2 hj ⟨e1, e2⟩ => ?_, fun acc S2 ⟨e1, e2⟩ => ?_⟩
  · subst e1
    rw [List.getElem?_map, Option.map_eq_some_iff] at hj
    obtain ⟨a, ha, rfl⟩ := hj
    have hlt := (List.getElem?_eq_some_iff.mp ha).1
    have ht : xs.take (j + 1) = xs.take j ++ [a] := by rw [List.take_add_one, ha]; rfl
    refine ⟨hP, ?_, ?_⟩
    · have h1 : acc.length ≤ j := by
        rw [e2, List.length_map]
        exact Nat.le_trans (List.length_filter_le _ _) (by rw [List.length_take]; omega)
      omega
    · refine hs a (List.mem_of_getElem? ha) _ _ (fun hp => ⟨rfl, ?_⟩) (fun hp => ⟨rfl, ?_⟩)
      · rw [ht, List.filter_append, List.map_append, e2]; simp [hp]
      · rw [ht, List.filter_append, List.map_append, e2]; simp [hp]
  · rw [List.length_map, List.take_of_length_le (Nat.le_refl _)] at e2
    subst e1; subst e2
    exact ⟨hP, k⟩
theorem lc_M (xs : List α) (e : α → Dat) {f : α → Dat} {G : List Dat → Store → Prop} (hP : P S) (hsz : xs.length ≤ sizeLine)
    (hs : ∀ a, a ∈ xs → ∀ (Kt : Dat → Store → Prop) (Kf : Store → Prop), Kt (f a) S →
      ug (e a) (wipeD dl own) S (fun dl2 S3 => tt dl2 S3 (fun b S4 => if b = true then ue dl2 S4 Kt XF0 else Kf S4) XF0) XF0)
    (k : G (xs.map f) S) : ∃ I : Nat → List Dat → Store → Prop, I 0 [] S ∧
  (∀ (j : Nat) d acc S2, (xs.map e)[j]? = some d → I j acc S2 → P S2 ∧ acc.length < sizeLine ∧ ug d (wipeD dl own) S2 (fun dl2 S3 => tt dl2 S3 (fun b S4 => if b = true then ue dl2 S4 (fun y S5 => I (j + 1) (acc ++ [y]) S5) XF0 else I (j + 1) acc S4) XF0) XF0) ∧
  ∀ acc S2, I (xs.map e).length acc S2 → P S2 ∧ G acc S2 :=
  lc_T xs e (p := fun _ => true) hP hsz (fun a ha Kt Kf h1 _ => hs a ha Kt Kf (h1 rfl)) (by rw [List.filter_eq_self.mpr fun _ _ => rfl]; exact k)
/-- a comprehension whose turns change the store -/
theorem lc_S (xs : List α) (e : α → Dat) {G : List Dat → Store → Prop} (I : List α → List Dat → Store → Prop) (hsz : xs.length ≤ sizeLine) (h0 : I [] [] S) (hP : ∀ pre acc S2, I pre acc S2 → P S2 ∧ acc.length ≤ pre.length)
    (hs : ∀ pre a rest acc S2, xs = pre ++ a :: rest → I pre acc S2 →
      ug (e a) (wipeD dl own) S2 (fun dl2 S3 => tt dl2 S3 (fun b S4 => if b = true then ue dl2 S4 (fun y S5 => I (pre ++ [a]) (acc ++ [y]) S5) XF0 else I (pre ++ [a]) acc S4) XF0) XF0)
    (k : ∀ acc S2, I xs acc S2 → G acc S2) : ∃ I : Nat → List Dat → Store → Prop, I 0 [] S ∧
  (∀ (j : Nat) d acc S2, (xs.map e)[j]? = some d → I j acc S2 → P S2 ∧ acc.length < sizeLine ∧ ug d (wipeD dl own) S2 (fun dl2 S3 => tt dl2 S3 (fun b S4 => if b = true then ue dl2 S4 (fun y S5 => I (j + 1) (acc ++ [y]) S5) XF0 else I (j + 1) acc S4) XF0) XF0) ∧
  ∀ acc S2, I (xs.map e).length acc S2 → P S2 ∧ G acc S2 := by
  refine ⟨fun j acc S2 => I (xs.take j) acc S2, by simpa using h0, fun j d acc S2 hj hI => ?_, fun acc S2 hI => ?_⟩
  · rw [List.getElem?_map, Option.map_eq_some_iff] at hj
    obtain ⟨a, ha, rfl⟩ := hj
    have hlt := (List.getElem?_eq_some_iff.mp ha).1
    have ht : xs.take (j + 1) = xs.take j ++ [a] := by rw [List.take_add_one, ha]; rfl
    have hx : xs = xs.take j ++ a :: xs.drop (j + 1) := by
      rw [← (List.getElem?_eq_some_iff.mp ha).2, ← List.drop_eq_getElem_cons, List.take_append_drop]
    refine ⟨(hP _ _ _ hI).1, ?_, ?_⟩
    · have := (hP _ _ _ hI).2
      rw [List.length_take] at this
      omega
    · simp only [ht]
      exact hs _ _ _ _ _ hx hI
  · rw [List.length_map, List.take_of_length_le (Nat.le_refl _)] at hI
    exact ⟨(hP _ _ _ hI).1, k _ _ hI⟩
/-- a loop over xs.map e, by what is done -/
theorem for_T (xs : List α) (e : α → Dat) {b : US} {N : Nat} {nx bk : Env' → Store → Prop} {rt : Dat → Store → Prop} {ex eg : Exc → Env' → Store → Prop} (I : List α → Env' → Store → Prop) (h0 : I [] dl S) (hP : ∀ pre dl1 S2, I pre dl1 S2 → P S2)
    (hs : ∀ pre a rest dl1 S2, xs = pre ++ a :: rest → I pre dl1 S2 → ug (e a) dl1 S2 (fun dl2 S3 => b { nx := GcTo N (I (pre ++ [a])), rt := rt, bk := bk, ct := GcTo N (I (pre ++ [a])), ex := ex } dl2 S3) (fun er S3 => eg er dl1 S3))
    (k : ∀ dl1 S2, I xs dl1 S2 → nx dl1 S2) : ∃ I : Nat → Env' → Store → Prop, I 0 dl S ∧
  (∀ (i : Nat) d dl1 S2, (xs.map e)[i]? = some d → I i dl1 S2 → P S2 ∧ ug d dl1 S2 (fun dl2 S3 => b { nx := GcTo N (I (i + 1)), rt := rt, bk := bk, ct := GcTo N (I (i + 1)), ex := ex } dl2 S3) (fun e S3 => eg e dl1 S3)) ∧
  ∀ dl1 S2, I (xs.map e).length dl1 S2 → P S2 ∧ nx dl1 S2 := by
  refine ⟨fun j dl1 S2 => I (xs.take j) dl1 S2, by simpa using h0, fun j d dl1 S2 hj hI => ?_, fun dl1 S2 hI => ?_⟩
  · rw [List.getElem?_map, Option.map_eq_some_iff] at hj
    obtain ⟨a, ha, rfl⟩ := hj
    have ht : xs.take (j + 1) = xs.take j ++ [a] := by rw [List.take_add_one, ha]; rfl
    have hx : xs = xs.take j ++ a :: xs.drop (j + 1) := by
      rw [← (List.getElem?_eq_some_iff.mp ha).2, ← List.drop_eq_getElem_cons, List.take_append_drop]
    refine ⟨hP _ _ _ hI, ?_⟩
    simp only [ht]
    exact hs _ _ _ _ _ hx hI
  · rw [List.length_map, List.take_of_length_le (Nat.le_refl _)] at hI
    exact ⟨hP _ _ _ hI, k _ _ hI⟩
end
theorem pairs_map {α β : Type} (xs : List α) (ys : List β) (e1 : α → Dat) (e2 : β → Dat) : pairs (xs.map e1) (ys.map e2) = (xs.zip ys).map fun p => .tup [e1 p.1, e2 p.2] := by
  unfold pairs
  induction xs generalizing ys with
  | nil => simp
  | cons x xs ih =>
    cases ys with
    | nil => simp
    | cons y ys => simp [ih]
theorem enumD_map {α : Type} (e : α → Dat) : ∀ (xs : List α) (k : Nat), enumD (k : Int) (xs.map e) = (xs.zipIdx k).map fun p => .tup [.int ((p.2 : Nat) : Int), e p.1]
  | [], _ => rfl
  | x :: xs, k => by
    simp only [List.map_cons, enumD, List.zipIdx_cons]
    rw [show ((k : Int) + 1) = ((k + 1 : Nat) : Int) by push_cast; rfl, enumD_map e xs (k + 1)]
theorem cutD_map {α : Type} (e : α → Dat) (xs : List α) (lo hi : Option Int) : cutD (xs.map e) lo hi = (((xs.drop (HT.sIx xs.length 0 lo)).take (HT.sIx xs.length xs.length hi - HT.sIx xs.length 0 lo))).map e := by
  unfold cutD
  rw [List.length_map, List.map_take, List.map_drop]
theorem cut_from {α : Type} (xs : List α) (i : Nat) : (xs.drop (HT.sIx xs.length 0 (some (i : Int)))).take (HT.sIx xs.length xs.length none - HT.sIx xs.length 0 (some (i : Int))) = xs.drop i := by
  rw [HT.sIx_none, HT.sIx_nat]
  by_cases h : i ≤ xs.length
  · rw [Nat.min_eq_left h, List.take_of_length_le (by rw [List.length_drop]; omega)]
  · rw [Nat.min_eq_right (by omega), List.drop_of_length_le (Nat.le_refl _), List.drop_of_length_le (by omega)]; simp
section
variable {S : Store} {K : KE} {a b c d : Dat} {r xs : List Dat}
theorem x_ixt0 (k : K a S) : gIx (.tup (a :: r)) (.int 0) S K := x_ixL (xs := a :: r) rfl (by
  unfold atI ixN; rw [if_pos (by decide), if_pos (by simp only [List.length_cons]; omega)]; rfl) k
theorem x_ixt1 (k : K b S) : gIx (.tup (a :: b :: r)) (.int 1) S K := x_ixL (xs := a :: b :: r) rfl (by
  unfold atI ixN; rw [if_pos (by decide), if_pos (by simp only [List.length_cons]; omega)]; rfl) k
theorem x_ixt2 (k : K c S) : gIx (.tup (a :: b :: c :: r)) (.int 2) S K := x_ixL (xs := a :: b :: c :: r) rfl (by
  unfold atI ixN; rw [if_pos (by decide), if_pos (by simp only [List.length_cons]; omega)]; rfl) k
theorem x_ixt3 (k : K d S) : gIx (.tup (a :: b :: c :: d :: r)) (.int 3) S K := x_ixL (xs := a :: b :: c :: d :: r) rfl (by
  unfold atI ixN; rw [if_pos (by decide), if_pos (by simp only [List.length_cons]; omega)]; rfl) k
theorem atI_nat' {α : Type} {xs : List α} {n : Nat} {x : α} (h : xs[n]? = some x) : atI xs (n : Int) = some x := by
  have := (List.getElem?_eq_some_iff.mp h).1
  unfold atI ixN
  rw [if_pos (by omega), if_pos (by omega)]
  simpa using h
theorem x_ixn {n : Nat} {x y : Dat} (e : seqD S x = some xs) (h : xs[n]? = some y) (k : K y S) : gIx x (.int (n : Int)) S K := x_ixL e (atI_nat' h) k
theorem x_lenT (k : K (.int xs.length) S) : gLen [.tup xs] S K := x_lenL rfl k
end
def anyStr (a : Str) : List Dat → Bool
  | .str b :: r => decide (b = a) || anyStr a r
  | _ => false
def allStr : List Dat → Bool
  | [] => true
  | .str _ :: r => allStr r
  | _ => false
theorem strs_of : ∀ {xs : List Dat}, allStr xs = true → ∃ ys : List Str, xs = ys.map Dat.str
  | [], _ => ⟨[], rfl⟩
  | .str b :: r, h => by
    obtain ⟨ys, e⟩ := strs_of (xs := r) h
    exact ⟨b :: ys, by rw [e]; rfl⟩
  | .non :: _, h => by cases h
  | .bl _ :: _, h => by cases h
  | .int _ :: _, h => by cases h
  | .lst _ :: _, h => by cases h
  | .tup _ :: _, h => by cases h
  | .dct _ _ :: _, h => by cases h
  | .dtt _ _ :: _, h => by cases h
  | .sq _ _ :: _, h => by cases h
  | .ins _ _ _ :: _, h => by cases h
  | .xd _ _ :: _, h => by cases h
  | .cell _ :: _, h => by cases h
  | .raw _ :: _, h => by cases h
  | .fn _ _ :: _, h => by cases h
  | .exv _ _ _ _ :: _, h => by cases h
theorem anyStr_in (a : Str) (ys : List Str) : inF (.str a) (ys.map Dat.str) = some (anyStr a (ys.map Dat.str)) := by
  unfold inF
  rw [mapM_strs]
  show some (inV _ _) = _
  congr 1
  unfold inV
  rw [List.any_map]
  induction ys with
  | nil => rfl
  | cons b r ih => rw [List.any_cons, ih]; rfl
theorem x_inTs {S : Store} {K : KE} {f : Bool → Bool} {a : Str} {xs : List Dat} (h : allStr xs = true) (k : K (.bl (f (anyStr a xs))) S) : gIn f (.str a) (.tup xs) S K := by
  obtain ⟨ys, rfl⟩ := strs_of h
  exact ⟨_, _, rfl, anyStr_in a ys, k⟩
theorem x_inTi {S : Store} {K : KE} {a : Str} {xs : List Dat} (h : allStr xs = true) (k : K (.bl (anyStr a xs)) S) : gIn id (.str a) (.tup xs) S K := x_inTs h k
theorem x_inTn {S : Store} {K : KE} {a : Str} {xs : List Dat} (h : allStr xs = true) (k : K (.bl (!(anyStr a xs))) S) : gIn (!·) (.str a) (.tup xs) S K := x_inTs h k
section
variable {S : Store} {K : KE} {xs ys : List Dat}
theorem x_slT {lo hi : Option Int} (k : K (.tup (cutD xs lo hi)) S) : gSl (.tup xs) lo hi S K := k
end
end DL
/-! DX1: an own error's __init__ that begins with super().__init__(..): its promise. -/
namespace DX
open PySem PySem.Spec PyProof.Rows L2
/-- what the names of such a def are -/
structure SupScope (N ps : List Str) (sc : Scope) : Prop where
  kind : sc.kind = .function
  co : sc.isCoroutine = false
  gen : sc.isGenerator = false
  nd : N.Nodup
  pre : N.take ps.length = ps
  par : ∀ x ∈ ps, sc.names.lookup x = some .local
  nocell : ∀ y ∈ sc.names, y.2 ≠ .cell
  onefree : ∀ y, sc.names.lookup y = some .free → y = ("__class__" : Str)
  cls : sc.names.lookup ("__class__" : Str) = some .free
  sup : sc.names.lookup ("super" : Str) = some .globalImplicit
/-- the context of its body -/
def supCx (CX : CXT) (P : Program) (w : World) (K : PySem.W.Frag) (mg : Str → Option Value) (base : Heap) (N : List Str) (qual : Str) (scope : Scope) (f : Addr) (cd : Value) (cc : Addr) (A : Around) (outer : List Env) (s : Shared) (H : Hp) (E : XK) : Cx where
  prog := P
  w := w
  K := K
  mg := mg
  base := base
  A := A.deeper (PySem.W.ksEnv qual scope s.heap.objs.size f cd cc)
  N := N
  s_0 := s
  H_0 := H
  env := PySem.W.ksEnv qual scope s.heap.objs.size f cd cc
  outer := outer
  stack := PySem.W.ksEnv qual scope s.heap.objs.size f cd cc :: outer
  ex := []
  fn := fun _ => false
  calm := true
  pn := []
  xe := fun e s' => wpAny (model P w) (A.deeper (PySem.W.ksEnv qual scope s.heap.objs.size f cd cc)) (leaving (PySem.W.ksEnv qual scope s.heap.objs.size f cd cc) e) (fun _ s2 => CX outer H s E e s2) (fun e2 s2 => CX outer H s E e2 s2) s'
theorem zip_rev {α : Type} : ∀ {ps : List Str} {us : List α} {i : Nat} {x : Str} {u : α}, ps.Nodup → ps[i]? = some x → us[i]? = some u → (ps.zip us).reverse.lookup x = some u := fun {ps us i x u} nd hx hu => by
  have key : ∀ {ps : List Str} {us : List α} {i : Nat}, ps.Nodup → ps[i]? = some x → us[i]? = some u → ∃ pre post, ps.zip us = pre ++ (x, u) :: post ∧ ∀ q ∈ post, q.1 ≠ x := by
    intro ps
    induction ps with
    | nil => intro us i _ h; simp at h
    | cons p ps ih =>
      intro us i nd h1 h2
      cases us with
      | nil => simp at h2
      | cons v us =>
        have nd2 := List.nodup_cons.mp nd
        cases i with
        | zero =>
          simp at h1 h2
          subst h1; subst h2
          refine ⟨[], ps.zip us, rfl, fun q hq z => nd2.1 ?_⟩
          rw [← z]
          exact (List.of_mem_zip (show (q.1, q.2) ∈ ps.zip us from hq)).1
        | succ i =>
          obtain ⟨a, b, e, f⟩ := ih (us := us) (i := i) nd2.2 (by simpa using h1) (by simpa using h2)
          exact ⟨(p, v) :: a, b, by rw [List.zip_cons_cons, e]; rfl, f⟩
  obtain ⟨a, b, e, f⟩ := key nd hx hu
  rw [e, List.reverse_append, List.reverse_cons, List.append_assoc]
  have skip : ∀ (l r : List (Str × α)), (∀ q ∈ l, q.1 ≠ x) → (l ++ r).lookup x = r.lookup x := fun l r => by
    induction l with
    | nil => intro _; rfl
    | cons q l ih =>
      intro h
      rw [List.cons_append, List.lookup_cons]
      have : (x == q.1) = false := by simpa using (h q List.mem_cons_self).symm
      rw [this]
      exact ih fun z hz => h z (List.mem_cons_of_mem _ hz)
  rw [skip b.reverse _ fun q hq => f q (List.mem_reverse.mp hq)]
  simp [List.lookup]
section
variable {CX : CXT} {P : Program} {w : World} {K : PySem.W.Frag} {mg : Str → Option Value} {base : Heap} {N ps : List Str} {qual : Str} {scope : Scope} {f cc D : Addr} {cd : Value} {A : Around} {outer : List Env} {s : Shared} {H : Hp} {E : XK}
theorem sup_start {us : List Value} {vs : List V} {h1 : Heap} {tk : Nat} (S : SupScope N ps scope) (hd : A.handled = none) (e0 : Env0 P w K mg base A outer s H) (hl : vs.length = ps.length) (r : Vals vs us)
    (cell : ∃ cl cld csl, K.lookup cc = some ⟨cl, cld, .cell (some (.ref D)), csl⟩) (hns : h1.Ns s.heap.objs.size fun x => (ps.zip us).reverse.lookup x) (kp : ∀ b o, s.heap.get? b = some o → h1.get? b = some o) :
    Inv (supCx CX P w K mg base N qual scope f cd cc A outer s H E) [] (L2.start N vs) H { s with heap := h1, toks := tk } := by
  have hpl : ps.length ≤ N.length := by
    have := congrArg List.length S.pre
    rw [List.length_take] at this
    omega
  obtain ⟨cl, cld, csl, hc⟩ := cell
  have KX : K.In s.heap := e0.mod.kin.keeps fun b o e => (e0.bs b o e).1
  have hcc := KX _ _ hc
  have one : ∀ {y : Str} {c : Addr}, ([(("__class__" : Str), cc)] : List (Str × Addr)).lookup y = some c → y = ("__class__" : Str) ∧ c = cc := fun {y c} h => by
    rw [List.lookup_cons] at h
    cases z : (y == ("__class__" : Str)) with
    | true => rw [z] at h; exact ⟨by simpa using z, (Option.some.inj h).symm⟩
    | false => rw [z] at h; simp at h
  have self : ([(("__class__" : Str), cc)] : List (Str × Addr)).lookup ("__class__" : Str) = some cc := by
    rw [List.lookup_cons]; simp
  have nob : ∀ b : Addr, b ∉ ([] : List Addr) := fun b z => List.not_mem_nil z
  have ok : (supCx CX P w K mg base N qual scope f cd cc A outer s H E).Ok := {
    mod := e0.mod
    kind := S.kind
    glob := rfl
    blt := rfl
    above := Nat.le_refl _
    inj := fun x y c h1 h2 => (one h1).1.trans (one h2).1.symm
    has := fun x hx => by
      have hx : scope.names.lookup x = some .cell ∨ scope.names.lookup x = some .free := hx
      rcases hx with hx | hx
      · exact absurd rfl (S.nocell _ (PySem.mem_of_lookup hx))
      · exact ⟨cc, by rw [S.onefree x hx]; exact self⟩
    cab := fun x c h => Bool.noConfusion h
    hd := fun _ => hd
    frames := Around.frames_deeper e0.frames
    stk := .inr ⟨rfl, rfl⟩
    exf := fun b z => absurd z (nob b)
    bs := e0.bs
    bsz := e0.bsz
    noex := fun b _ _ => nob b
    exfs := fun b z => absurd z (nob b)
    funs := e0.funs
    frf := e0.frf }
  refine ⟨ok, rfl, e0.bare, Un.kept kp, ⟨_, hns, fun i y v q1 q2 _ => ?_⟩, fun y c h => ⟨some (.ref D), ?_⟩, e0.hok.fresh (Nat.le_refl _), fun y c h => ?_, fun p hp => absurd (show p ∈ ([] : List (Addr × Obj)) from hp) (by simp), e0.hok.kept kp, ?_⟩
  · have hi : i < vs.length := by
      unfold L2.start at q2
      by_cases hi : i < vs.length
      · exact hi
      · rw [List.getElem?_append_right (by simpa using hi), List.getElem?_replicate] at q2
        split at q2 <;> cases q2
    have hv : vs[i]? = some v := by
      unfold L2.start at q2
      rw [List.getElem?_append_left (by simpa using hi), List.getElem?_map] at q2
      cases e : vs[i]? with
      | none => rw [e] at q2; cases q2
      | some a => rw [e] at q2; cases q2; rfl
    obtain ⟨u, hu, rv⟩ := r.get hv
    have hp : ps[i]? = some y := by
      rw [← S.pre, List.getElem?_take_of_lt (by omega)]; exact q1
    have ndP : ps.Nodup := by rw [← S.pre]; exact S.nd.sublist (List.take_sublist _ _)
    exact ⟨u, rv, .inl ⟨S.par y (List.mem_of_getElem? hp), zip_rev ndP hp hu⟩⟩
  · obtain ⟨_, rfl⟩ := one h
    exact ⟨_, kp _ _ hcc, rfl⟩
  · obtain ⟨_, rfl⟩ := one h
    exact (e0.bs _ _ (e0.mod.kin _ _ hc)).2
  · unfold L2.start
    rw [List.length_append, List.length_map, List.length_replicate]
    show vs.length + (N.length - vs.length) = N.length
    omega
end
end DX
namespace DX
open PySem PySem.Spec PyProof.Rows L2
/-- a pin more -/
theorem pin_add {X : Cx} {pins : List (Addr × Obj)} {sg : L2.St} {H : Hp} {s : Shared} {u : Addr} {o : Obj} (I : Inv X pins sg H s) (h1 : s.heap.get? u = some o) (h2 : H u = none) (h3 : u ≠ X.env.locals) (h4 : u ∉ X.fs) (h5 : ∀ v, o.data ≠ .cell v) : Inv X ((u, o) :: pins) sg H s :=
  ⟨I.ok, I.os, I.bare, I.base, I.loc, I.cell, I.free, I.freeC, fun p hp => by
    rcases List.mem_append.mp hp with q | q
    · exact I.pin p (List.mem_append_left _ q)
    · rcases List.mem_cons.mp q with e | q
      · subst e; exact ⟨h1, h2, h3, h4, h5⟩
      · exact I.pin p (List.mem_append_right _ q), I.hok, I.len⟩
theorem pin_less {X : Cx} {pins : List (Addr × Obj)} {p : Addr × Obj} {sg : L2.St} {H : Hp} {s : Shared} (I : Inv X (p :: pins) sg H s) : Inv X pins sg H s :=
  ⟨I.ok, I.os, I.bare, I.base, I.loc, I.cell, I.free, I.freeC, fun q hq => I.pin q (by
    rcases List.mem_append.mp hq with z | z
    · exact List.mem_append_left _ z
    · exact List.mem_append_right _ (List.mem_cons_of_mem _ z)), I.hok, I.len⟩
/-- the bound built-in __init__ runs upon an error that is being made -/
theorem bound_init {X : Cx} {pins : List (Addr × Obj)} {sg : L2.St} {H : Hp} {s : Shared} {u a C : Addr} {us : List Value} {Q : Value → Shared → Prop} {E : Value → Shared → Prop} {A : Around} (T : OexC X.K C) (I : Inv X pins sg H s) (hu : s.heap.get? u = some (PySem.W.kxs_mw "ValueError.__init__" a))
    (ea : H a = some (exo a C none)) (hl : us.length ≤ sizeLine) (h : ∀ s', Inv X pins sg H s' → Q .none s') : wpAny (model X.prog X.w) A (call (.ref u) us) Q E s := by
  obtain ⟨nm, q, N, bs, bm, sn, sub, ab, col, dd, k0, k1, k2, k3, k5, hC, hbm⟩ := T.cls
  obtain ⟨t1, ho⟩ := exo_at I.hok ea
  obtain ⟨hp, g, d, t, os⟩ := s
  have HC := I.kIn _ _ hC
  refine wpAny_call (codeAny_of_tree ?_)
  show wpAny _ A.in1 (callAny (.ref u) ⟨us, []⟩) _ _ _
  simp only [callAny]
  refine wpAny_bind (wpAny_load hu ?_)
  simp only [PySem.W.kxs_mw, show (Value.type "method-wrapper" == Value.type "method" || Value.type "method-wrapper" == Value.type "builtin_function_or_method" || Value.type "method-wrapper" == Value.type "method-wrapper") = true by decide, if_true]
  refine PySem.W.KFB.if_so (by decide) ?_
  refine wpAny_bind (PySem.W.check_bound_init F.excBase_ValueError.toExcCallFacts HC ho rfl ?_)
  refine wpAny_bind (wpAny_pure (wpAny_pure ?_))
  refine ⟨plainId_quiet F.excBase_ValueError.init.plain _, codeAny_builtin F.excBase_ValueError.initEntry ?_⟩
  refine PySem.W.exc_init_tree (cls := .ref C) (t0 := t1) (dv := none) (c2 := .none) (c3 := .none) (b4 := .bool false) ho hl fun h' k e' _ => ?_
  have J := I.write (t' := t) (x := a) (e := a) (o := exo a C none) (by rw [ea]; exact True.intro) (.inl rfl) k ⟨_, e'⟩ (exo_ok e')
  have eu : upd H a (exo a C none) = H := by
    funext b
    by_cases hb : b = a
    · rw [hb, upd_same, ea]
    · rw [upd_ne hb]
  rw [eu] at J
  exact h _ J
end DX
namespace DX
open PySem PySem.Spec PyProof.Rows L2
/-- what the written part says of a class C whose __init__ is the def at f (its cell __class__ at cc, its code at cda) -/
structure SupK (P : Program) (K : PySem.W.Frag) (C f cc cda : Addr) (name qual : Str) (params : Arguments) (body : List Stmt) (scope : Scope) (x0 : Str) (fd : FuncData) : Prop where
  fn : ∃ oc od osl dV kV doc pm an ct, fd = PySem.W.ksFn name qual params body scope dV kV doc pm an (.ref cda) ct cc ∧ K.lookup f = some ⟨oc, od, .func fd, osl⟩
  code : PySem.W.codeIn K (.ref cda) qual = true
  file : ∃ c d vs sl fl tf, K.lookup cda = some ⟨c, d, .fields vs, sl⟩ ∧ vs[2]? = some (.str fl tf) ∧ ((P.main.file : Str) == fl) = true
  cell : ∃ cl cld csl, K.lookup cc = some ⟨cl, cld, .cell (some (.ref C)), csl⟩
  oex : OexC K C
  nxt : PySem.W.ks_superIn K C C "__init__" = some (some (.builtin "ValueError.__init__"))
  sub : PySem.W.mroIn K C (.ref C) = some true
  bas : PySem.W.subIn K (.ref C) (.type "ValueError") = some true
  opq : PySem.W.nsIn K PySem.cStatics "thirdparty.any" = some none
  par : ∃ ar, (params.posonlyargs ++ params.args).head? = some ar ∧ ar.arg = x0
  top : (P.main.scope.names.lookup ("super" : Str)).isSome = false
section
variable {P : Program} {w : World} {K : PySem.W.Frag} {mg : Str → Option Value} {base : Heap} {N ps : List Str} {name qual x0 : Str} {params : Arguments} {rest : List Stmt} {scope : Scope} {f cc cda C : Addr} {fd : FuncData} {CX : CXT} {k : Nat} {sp : Sp} {e : Expr} {es : List Expr} {p0 p1 p2 p3 p4 : Pos}
theorem fn_sup (T : SupK P K C f cc cda name qual params (.Expr (.Call (.Attribute (.Call (.Name "super" p0) [] [] p1) "__init__" p2) (e :: es) [] p3) p4 :: rest) scope x0 fd) (S : SupScope N ps scope) (hx0 : ps[0]? = some x0) (hm : mg "super" = none) (len : ∀ vs H Q E, sp vs H Q E → vs.length = ps.length)
    {pl : Env → Sem Bool} (hev : ∀ env : Env, eval (.Call (.Attribute (.Call (.Name "super" p0) [] [] p1) "__init__" p2) (e :: es) [] p3) env = (do
      let ov ← attributeBase (.Call (.Name "super" p0) [] [] p1) "__init__" env (eval (.Call (.Name "super" p0) [] [] p1) env)
      standAt p2.atName
      let (g, first) ← holding [ov] (getMethod ov "__init__" (pl env))
      callWith p3 g first (backTo p3 (starEach (e :: es) env)) []))
    (he : ∀ env : Env, starEach (e :: es) env = (false, eval e env) :: starEach es env) (hpl : ∀ env : Env, (backTo p3 (starEach es env)).any (·.1) = false)
    (hbody : ∀ (A : Around) (outer : List Env) (s : Shared) (H : Hp) (vs : List V) (Q : VK) (E : XK), Room k (A.deeper (PySem.W.ksEnv qual scope s.heap.objs.size f (.ref cda) cc)) → sp vs H Q E →
      ∃ (a : Addr) (ta : TA) (tr : TS), vs[0]? = some (.ref a) ∧ H a = some (exo a C none) ∧ PA (supCx CX P w K mg base N qual scope f (.ref cda) cc A outer s H E) (e :: es) ta ∧ PSs (supCx CX P w K mg base N qual scope f (.ref cda) cc A outer s H E) rest tr ∧
        ta (L2.start N vs) H fun ws H1 => ws.length ≤ 1000 ∧ H1 a = some (exo a C none) ∧ tr { nx := fun _ H' => Q .non H', rt := Q } (L2.start N vs) H1) :
    FnOk P w K mg base CX (k + 1) f fd ps sp := by
  refine ⟨len, fun A outer s H args us vs Q E hr e0 hb r hsp => ?_⟩
  have hl := len _ _ _ _ hsp
  obtain ⟨oc, od, osl, dV, kV, doc, pm, an, ct, rfl, lk⟩ := T.fn
  obtain ⟨c1, d1, vs1, sl1, fl, tf, hcode, hvs, hfile⟩ := T.file
  obtain ⟨cl, cld, csl, hcell⟩ := T.cell
  obtain ⟨ar, hpar, har⟩ := T.par
  have KX : K.In s.heap := e0.mod.kin.keeps fun b o z => (e0.bs b o z).1
  have lim : s.heap.NoLimit := e0.mod.nolimit.keeps fun b o z => (e0.bs b o z).1
  obtain ⟨a, ta, tr, hv0, ha, hpa, hps, hq⟩ := hbody A outer s H vs Q E (hr.deeper _) hsp
  refine PySem.ks_codeAny_call_defAt (binds := ps.zip us) hr.depth (KX _ _ lk) rfl lim (PySem.W.codeRec_of KX T.code) rfl hb S.nocell (fun y hy => S.par y.1 (List.of_mem_zip (show (y.1, y.2) ∈ ps.zip us from hy)).1) (fun h1 hns kp => ?_) S.co S.gen S.kind
  have I : Inv (supCx CX P w K mg base N qual scope f (.ref cda) cc A outer s H E) [] (L2.start N vs) H { s with heap := h1, toks := s.toks + (ps.zip us).length } := sup_start S hr.hd e0 hl r ⟨cl, cld, csl, hcell⟩ hns kp
  have K1 : K.In h1 := KX.keeps kp
  have fin : ∀ {sg' : L2.St} {H' : Hp} {v : V} {u : Value} {s' : Shared}, Inv (supCx CX P w K mg base N qual scope f (.ref cda) cc A outer s H E) [] sg' H' s' → L2.RelV v u → Q v H' → CE outer P w H s Q u s' := fun J rv q => ⟨_, _, J.os, J.bare, J.base, J.hok, rv, q⟩
  refine PySem.ks_wpAt_execs_cons (PySem.ks_wpAt_Expr_any (PySem.ks_wpAt_mono (Q := fun _ s' => ∃ H1, Inv (supCx CX P w K mg base N qual scope f (.ref cda) cc A outer s H E) [] (L2.start N vs) H1 s' ∧ tr { nx := fun _ H' => Q .non H', rt := Q } (L2.start N vs) H1) ?_ (fun v s' z => ?_) fun _ _ z => z) (by show (scope.kind == _ && _) = false; rw [S.kind]; rfl))
  · obtain ⟨cdC, hcd⟩ : ∃ cdC, PySem.W.clsIn K C = some cdC := by
      have z := T.nxt
      unfold PySem.W.ks_superIn at z
      cases q : PySem.W.clsIn K C with
      | none => rw [q] at z; cases z
      | some cdC => exact ⟨cdC, rfl⟩
    have hal : PySem.W.alongIn K "__init__" ((cdC.mro.dropWhile (· != .ref C)).drop 1) = some (some (.builtin "ValueError.__init__")) := by
      have z := T.nxt
      unfold PySem.W.ks_superIn at z
      rw [hcd] at z
      exact z
    obtain ⟨oD, hD1, hD2⟩ : ∃ oD, h1.get? C = some oD ∧ oD.data = .cls cdC := by
      unfold PySem.W.clsIn at hcd
      split at hcd
      · rename_i q; cases hcd; exact ⟨_, K1 _ _ q, rfl⟩
      · cases hcd
    obtain ⟨t1, hoa⟩ := exo_at I.hok ha
    have ⟨m, hns2, _⟩ := I.loc
    have hmro : PySem.W.Looks (model P w) h1 (mroOf (.ref C)) cdC.mro := (PySem.W.looks_clsIn K1 hcd).andThen .now
    have haC : a ≠ C := fun z => by
      rw [z, hD1] at hoa
      have := Option.some.inj hoa
      rw [this] at hD2
      cases hD2
    refine PySem.ks_wpAt_MethodCall ?_ (hev _)
    refine PySem.ks_wpAt_super_base S.sup S.cls (by decide) rfl (K1 _ _ lk) rfl hpar rfl (K1 _ _ hcode) rfl hvs hfile T.top ?_
    obtain ⟨mb, hb1, hb2⟩ := e0.mod.blt
    have bk : ∀ b o, base.get? b = some o → h1.get? b = some o := fun b o z => kp b o (e0.bs b o z).1
    refine PySem.W.ks_loadName_global S.kind S.sup (Calls.loadGlobal_builtin (e0.mod.glob.keeps bk) hm (hb1.keeps bk) ((hb2 _ (by decide)).trans (by decide +kernel)) ⟨rfl, ?_⟩)
    refine wpAny_loadName_free S.kind S.cls (by show ([(("__class__" : Str), cc)] : List (Str × Addr)).lookup ("__class__" : Str) = some cc; rw [List.lookup_cons]; simp) ⟨_, K1 _ _ hcell, rfl⟩ ?_
    obtain ⟨u0, hu0, ru0⟩ := r.get hv0
    cases ru0
    have ndP : ps.Nodup := by rw [← S.pre]; exact S.nd.sublist (List.take_sublist _ _)
    refine wpAny_loadName_local S.kind (by rw [har]; exact S.par x0 (List.mem_of_getElem? hx0)) hns (by rw [har]; exact zip_rev ndP hx0 hu0) ?_
    refine PySem.ks_wpAny_isType_cls hD1 hD2 ⟨rfl, ?_⟩
    refine PySem.ks_wpAny_call_super hD1 hD2 hoa rfl (fun c z => by cases z) (PySem.W.looks_mroIn K1 T.sub) fun h2 hso k2 => ?_
    have K2 : K.In h2 := K1.keeps k2
    refine PySem.W.kxs_getMethod PySem.W.kxs_ValueError hso (PySem.W.looks_opaque K2 T.opq) (hmro.keeps k2) rfl K2 hal ?_ haC (by decide) ?_
    · have z : PySem.W.InstAt h2 a (PySem.HandSPX.excO C t1) C none := ⟨k2 _ _ hoa, rfl, rfl, True.intro⟩
      exact z.type.andThen (PySem.W.looks_subIn K2 T.bas)
    · have kk : ∀ b o, h1.get? b = some o → (h2.push (PySem.W.kxs_mw "ValueError.__init__" a)).get? b = some o := fun b o z => Heap.get?_push_of_some _ (k2 b o z)
      have J0 := I.kept (t' := s.toks + (ps.zip us).length + 1) kk
      have sz : h1.objs.size ≤ h2.objs.size := Nat.le_of_lt (Heap.lt_size hso)
      have nu : H h2.objs.size = none := I.hok.fresh sz
      have gu : (h2.push (PySem.W.kxs_mw "ValueError.__init__" a)).get? h2.objs.size = some (PySem.W.kxs_mw "ValueError.__init__" a) := Heap.get?_push_size _ rfl
      have J1 := pin_add J0 gu nu (Nat.ne_of_gt (Nat.lt_of_lt_of_le I.lt sz)) (I.nofs sz) (fun v z => by cases z)
      show wpAny _ _ (callWith p3 (.ref h2.objs.size) [] (backTo p3 (starEach (e :: es) _)) []) _ _ _
      have run := hpa.run p3 _ _ _ H _ J1 hq
      rw [he] at run ⊢
      refine PySem.W.kxs_callWith (i := "ValueError.__init__") (x := a) (by show (false || (backTo p3 (starEach es _)).any (·.1)) = false; rw [hpl]; rfl) (Calls.evalArgs_plain (thn run fun us2 s2 ⟨ws, H1, J2, r2, hl2, ea2, q2⟩ => ?_))
      refine ⟨(J2.pin (h2.objs.size, _) (by simp)).1, ?_⟩
      refine bound_init T.oex J2 (J2.pin (h2.objs.size, _) (by simp)).1 ea2 (by show us2.length ≤ _; rw [← r2.length, sizeLine_eq]; omega) fun s3 J3 => ⟨H1, pin_less J3, q2⟩
  · obtain ⟨H1, J, q⟩ := z
    refine wpAt_of_wpAny (wpAny_mono (hps.run [] s' _ H1 _ J q) (fun fl s2 z => ?_) fun _ _ z => z)
    cases fl with
    | ret u =>
      obtain ⟨v, sg', H', J2, rv, q2⟩ := z
      exact fin J2 rv q2
    | next =>
      obtain ⟨sg', H', J2, q2⟩ := z
      exact fin (v := V.non) (u := Value.none) J2 rfl q2
    | brk => obtain ⟨_, _, _, q⟩ := z; exact False.elim q
    | cont => obtain ⟨_, _, _, q⟩ := z; exact False.elim q
end
end DX
/-! DX4: the promises of these __init__: which fields they lay. -/
namespace DX
open PySem L2
/-- where a field comes from: a text, the i-th argument -/
inductive Fs where
  | c (s : Str) | a (i : Nat)
def Fs.v (ws : List V) : Fs → Option V
  | .c s => some (.str s)
  | .a i => ws[i]?
def FV (ws : List V) : List Fs → List V → Prop
  | [], [] => True
  | f :: fs, y :: ys => f.v ws = some y ∧ FV ws fs ys
  | _, _ => False
/-- an __init__ of n arguments that lays the fields nf (the last one first) -/
def spIni (C : Addr) (nf : List (Str × Fs)) (n : Nat) (cond : List V → Prop) : Sp := fun vs H Q _ => ∃ (a : Addr) (ws ys : List V), vs = .ref a :: ws ∧ ws.length = n ∧ cond ws ∧ FV ws (nf.map (·.2)) ys ∧ H a = some (exo a C none) ∧
  ∀ d, H d = none → d ≠ a → Q .non (upd (upd H d (exd d ((nf.map (·.1)).zip ys))) a (exo a C (some d)))
theorem spIni_len {C : Addr} {nf : List (Str × Fs)} {n : Nat} {cond : List V → Prop} {ps : List Str} (h : ps.length = n + 1) : ∀ vs H Q E, spIni C nf n cond vs H Q E → vs.length = ps.length := fun vs H Q E ⟨a, ws, ys, e, l, _⟩ => by
  rw [e, h, List.length_cons, l]
theorem upd_two {H : Hp} {a d : Addr} {o1 o2 p : HO} (h : d ≠ a) : upd (upd (upd H d o1) a p) d o2 = upd (upd H d o2) a p := by
  funext b
  by_cases hb : b = d
  · subst hb; rw [upd_same, upd_ne h, upd_same]
  · rw [upd_ne hb]
    by_cases ha : b = a
    · subst ha; rw [upd_same, upd_same]
    · rw [upd_ne ha, upd_ne hb, upd_ne ha, upd_ne hb]
section
variable {P : Program} {w : World} {K : PySem.W.Frag} {mg : Str → Option Value} {base : Heap} {name qual f1 f2 x1 x2 code msg : Str} {params : Arguments} {scope : Scope} {f cc cda C : Addr} {fd : FuncData} {CX : CXT} {k : Nat}
  {p0 p1 p2 p3 p4 q1 q2 q3 q4 r1 r2 r3 r4 s1 s2 s3 s4 z0 : Pos} {j0 j1 : Nat}
/-- self.f1 = x1; self.code = code -/
theorem ini1 (T : SupK P K C f cc cda name qual params [.Expr (.Call (.Attribute (.Call (.Name "super" p0) [] [] p1) "__init__" p2) [.Constant (.str msg) j0 z0] [] p3) p4,
      .Assign [.Attribute (.Name "self" q1) f1 q2] (.Name x1 q3) q4, .Assign [.Attribute (.Name "self" r1) "code" r2] (.Constant (.str code) j1 r3) r4] scope "self" fd)
    (S : SupScope ["self", x1] ["self", x1] scope) (hm : mg "super" = none) (n1 : PySem.W.findIn K (.ref C) f1 = some none) (n2 : PySem.W.findIn K (.ref C) "code" = some none)
    (hd1 : (x1 == ("__debug__" : Str)) = false) (hd2 : (x1 == ("__classdict__" : Str)) = false)
    {pl : Env → Sem Bool} (hev : ∀ env : Env, eval (.Call (.Attribute (.Call (.Name "super" p0) [] [] p1) "__init__" p2) [.Constant (.str msg) j0 z0] [] p3) env = (do
      let ov ← attributeBase (.Call (.Name "super" p0) [] [] p1) "__init__" env (eval (.Call (.Name "super" p0) [] [] p1) env)
      standAt p2.atName
      let (g, first) ← holding [ov] (getMethod ov "__init__" (pl env))
      callWith p3 g first (backTo p3 (starEach [.Constant (.str msg) j0 z0] env)) [])) :
    FnOk P w K mg base CX (k + 1) f fd ["self", x1] (spIni C [("code", .c code), (f1, .a 0)] 1 fun _ => True) := by
  refine fn_sup (rest := _) T S rfl hm (spIni_len rfl) hev (fun _ => rfl) (fun _ => rfl) fun A outer s H vs Q E hr ⟨a, ws, ys, ev, hl, _, fv, ea, q⟩ => ?_
  obtain ⟨v, rfl⟩ : ∃ v, ws = [v] := by
    match ws, hl with
    | [v], _ => exact ⟨v, rfl⟩
  obtain rfl : ys = [.str code, v] := by
    match ys, fv with
    | [y1, y2], ⟨h1, h2, _⟩ =>
      have h1 : some (V.str code) = some y1 := h1
      have h2 : some v = some y2 := h2
      cases h1; cases h2; rfl
  subst ev
  have vs0 : Vis scope ("self" : Str) := .inl (S.par _ List.mem_cons_self)
  have vs1 : Vis scope x1 := .inl (S.par _ (List.mem_cons_of_mem _ List.mem_cons_self))
  refine ⟨a, _, _, rfl, ea, pa_cons pe_str pa_nil, pss_cons (ps_ost (pe_var (i := 0) rfl vs0 (by decide) (by decide)) (pe_var (i := 1) rfl vs1 hd1 hd2)) (pss_one (ps_ost (pe_var (i := 0) rfl vs0 (by decide) (by decide)) pe_str)), ?_⟩
  refine ⟨Nat.le_of_ble_eq_true rfl, ea, ?_⟩
  refine ⟨v, rfl, .ref a, rfl, a, C, rfl, T.oex, n1, .inl ⟨ea, fun d nd ne => ?_⟩⟩
  refine ⟨.ref a, rfl, a, C, rfl, T.oex, n2, .inr ⟨d, _, upd_same, by rw [upd_ne ne, upd_same], Nat.le_of_ble_eq_true rfl, ?_⟩⟩
  rw [upd_two ne]
  exact q d nd ne
/-- self.f1 = x1; self.f2 = x2; self.code = code; the text ends with str(x1) -/
theorem ini2 {za zb zc zd : Pos} (T : SupK P K C f cc cda name qual params [.Expr (.Call (.Attribute (.Call (.Name "super" p0) [] [] p1) "__init__" p2) [.BinOp (.Constant (.str msg) j0 z0) .Add (.Call (.Name "str" za) [.Name x1 zb] [] zc) zd] [] p3) p4,
      .Assign [.Attribute (.Name "self" q1) f1 q2] (.Name x1 q3) q4, .Assign [.Attribute (.Name "self" s1) f2 s2] (.Name x2 s3) s4, .Assign [.Attribute (.Name "self" r1) "code" r2] (.Constant (.str code) j1 r3) r4] scope "self" fd)
    (S : SupScope ["self", x1, x2] ["self", x1, x2] scope) (hm : mg "super" = none) (hms : mg "str" = none) (hgs : scope.names.lookup ("str" : Str) = some .globalImplicit) (hmsg : msg.length ≤ 1000)
    (n1 : PySem.W.findIn K (.ref C) f1 = some none) (n3 : PySem.W.findIn K (.ref C) f2 = some none) (n2 : PySem.W.findIn K (.ref C) "code" = some none)
    (hd1 : (x1 == ("__debug__" : Str)) = false) (hd2 : (x1 == ("__classdict__" : Str)) = false) (hd3 : (x2 == ("__debug__" : Str)) = false) (hd4 : (x2 == ("__classdict__" : Str)) = false)
    {pl : Env → Sem Bool} (hev : ∀ env : Env, eval (.Call (.Attribute (.Call (.Name "super" p0) [] [] p1) "__init__" p2) [.BinOp (.Constant (.str msg) j0 z0) .Add (.Call (.Name "str" za) [.Name x1 zb] [] zc) zd] [] p3) env = (do
      let ov ← attributeBase (.Call (.Name "super" p0) [] [] p1) "__init__" env (eval (.Call (.Name "super" p0) [] [] p1) env)
      standAt p2.atName
      let (g, first) ← holding [ov] (getMethod ov "__init__" (pl env))
      callWith p3 g first (backTo p3 (starEach [.BinOp (.Constant (.str msg) j0 z0) .Add (.Call (.Name "str" za) [.Name x1 zb] [] zc) zd] env)) [])) :
    FnOk P w K mg base CX (k + 1) f fd ["self", x1, x2] (spIni C [("code", .c code), (f2, .a 1), (f1, .a 0)] 2 fun ws => ∃ z : Str, ws[0]? = some (.str z) ∧ z.length ≤ 1000) := by
  refine fn_sup (rest := _) T S rfl hm (spIni_len rfl) hev (fun _ => rfl) (fun _ => rfl) fun A outer s H vs Q E hr ⟨a, ws, ys, ev, hl, ⟨z, hz, hzl⟩, fv, ea, q⟩ => ?_
  obtain ⟨v1, v2, rfl⟩ : ∃ v1 v2, ws = [v1, v2] := by
    match ws, hl with
    | [v1, v2], _ => exact ⟨v1, v2, rfl⟩
  have hz : some v1 = some (V.str z) := hz
  cases hz
  obtain rfl : ys = [.str code, v2, .str z] := by
    match ys, fv with
    | [y1, y2, y3], ⟨h1, h2, h3, _⟩ =>
      have h1 : some (V.str code) = some y1 := h1
      have h2 : some v2 = some y2 := h2
      have h3 : some (V.str z) = some y3 := h3
      cases h1; cases h2; cases h3; rfl
  subst ev
  have vs0 : Vis scope ("self" : Str) := .inl (S.par _ List.mem_cons_self)
  have vs1 : Vis scope x1 := .inl (S.par _ (List.mem_cons_of_mem _ List.mem_cons_self))
  have vs2 : Vis scope x2 := .inl (S.par _ (List.mem_cons_of_mem _ (List.mem_cons_of_mem _ List.mem_cons_self)))
  have szl : sizeLine = 16777216 := rfl
  have pv0 := pe_var (X := supCx CX P w K mg base ["self", x1, x2] qual scope f (.ref cda) cc A outer s H E) (i := 0) (pos := q1) rfl vs0 (by decide) (by decide)
  refine ⟨a, _, _, rfl, ea, pa_cons (pe_op op_add_str pe_str (pe_callTy SkE.call_str_str (x := "str") hgs hms (by decide +kernel) (pa_cons (pe_var (i := 1) rfl vs1 hd1 hd2) pa_nil))) pa_nil,
    pss_cons (ps_ost (pe_var (i := 0) rfl vs0 (by decide) (by decide)) (pe_var (i := 1) rfl vs1 hd1 hd2)) (pss_cons (ps_ost (pe_var (i := 0) rfl vs0 (by decide) (by decide)) (pe_var (i := 2) rfl vs2 hd3 hd4)) (pss_one (ps_ost (pe_var (i := 0) rfl vs0 (by decide) (by decide)) pe_str))), ?_⟩
  refine ⟨.str z, rfl, z, rfl, msg, z, rfl, rfl, by omega, Nat.le_of_ble_eq_true rfl, ea, ?_⟩
  refine ⟨.str z, rfl, .ref a, rfl, a, C, rfl, T.oex, n1, .inl ⟨ea, fun d nd ne => ?_⟩⟩
  refine ⟨v2, rfl, .ref a, rfl, a, C, rfl, T.oex, n3, .inr ⟨d, _, upd_same, by rw [upd_ne ne, upd_same], Nat.le_of_ble_eq_true rfl, ?_⟩⟩
  rw [upd_two ne]
  refine ⟨.ref a, rfl, a, C, rfl, T.oex, n2, .inr ⟨d, _, upd_same, by rw [upd_ne ne, upd_same], Nat.le_of_ble_eq_true rfl, ?_⟩⟩
  rw [upd_two ne]
  exact q d nd ne
end
end DX
/-! DX5: raise C(..) over data. -/
namespace DL
open PySem L2 DX
def FD (ds : List Dat) : List Fs → List Dat → Prop
  | [], [] => True
  | f :: fs, y :: ys => (match f with | .c s => some (Dat.str s) | .a i => ds[i]?) = some y ∧ FD ds fs ys
  | _, _ => False
def condV (b : Bool) (ws : List V) : Prop := b = true → ∃ z : Str, ws[0]? = some (.str z) ∧ z.length ≤ 1000
def condD (b : Bool) (ds : List Dat) : Prop := b = true → ∃ z : Str, ds[0]? = some (.str z) ∧ z.length ≤ 1000
/-- an own error's class that may be made: its __init__ lays nf -/
def RaiseV (P : Program) (w : World) (K : PySem.W.Frag) (mg : Str → Option Value) (base : Heap) (k : Nat) (C : Addr) (nf : List (Str × Fs)) (n : Nat) (b : Bool) : Prop :=
  ∃ fI fd ps, OexC K C ∧ PySem.W.findIn K (.ref C) "__init__" = some (some (.ref fI)) ∧ PySem.W.typeIn K (.ref fI) = some (.type "function") ∧ FnOk P w K mg base (L2.CX P w) k fI fd ps (spIni C nf n (condV b)) ∧ Binds K fd ps []
def uRaise (C : Addr) (nf : List (Str × Fs)) (n : Nat) (b : Bool) (ua : UA) : US := fun D dl S => ua dl S (fun ds S1 => ds.length = n ∧ condD b ds ∧ ∃ xs, FD ds (nf.map (·.2)) xs ∧ D.ex ⟨C, nf.map (·.1), xs⟩ dl S1) (fun e S1 => D.ex e dl S1)
theorem FD.len {ds : List Dat} : ∀ {fs : List Fs} {xs : List Dat}, FD ds fs xs → fs.length = xs.length
  | [], [], _ => rfl
  | _ :: fs, _ :: ys, h => by rw [List.length_cons, List.length_cons, FD.len h.2]
  | [], _ :: _, h => h.elim
  | _ :: _, [], h => h.elim
theorem fd_fv [Tabl] {L : LL} {H : Hp} {S : Store} {T : List (Addr × HO)} {ws : List V} {ds : List Dat} (q : Ls L ws ds) : ∀ {fs : List Fs} {xs : List Dat} {L0 : LL}, Lle L L0 → SR H L0 S T → FD ds fs xs → ∃ ys L', FV ws fs ys ∧ Lle L0 L' ∧ Ls L' ys xs ∧ SR H L' S T
  | [], [], L0, _, hs, _ => ⟨[], L0, True.intro, .refl _, True.intro, hs⟩
  | f :: fs, x :: xs, L0, l0, hs, h => by
    obtain ⟨h1, h2⟩ := h
    obtain ⟨ys, L1, a1, a2, a3, a4⟩ := fd_fv q l0 hs h2
    cases f with
    | c s =>
      have h1 : some (Dat.str s) = some x := h1
      cases h1
      exact ⟨.str s :: ys, Ladd L1 (.str s) (.str s), ⟨rfl, a1⟩, a2.trans Ladd.le, ⟨Ladd.here, a3.le Ladd.le⟩, a4.flat rfl⟩
    | a i =>
      have h1 : ds[i]? = some x := h1
      obtain ⟨v, hv, pv⟩ := q.get h1
      exact ⟨v :: ys, L1, ⟨hv, a1⟩, a2, ⟨a2 _ _ (l0 _ _ pv), a3⟩, a4⟩
  | [], _ :: _, _, _, _, h => h.elim
  | _ :: _, [], _, _, _, h => h.elim
theorem cond_ok [Tabl] {L : LL} {H : Hp} {S : Store} {T : List (Addr × HO)} {ws : List V} {ds : List Dat} {b : Bool} (hs : SR H L S T) (q : Ls L ws ds) (h : condD b ds) : condV b ws := fun e => by
  obtain ⟨z, hz, hl⟩ := h e
  obtain ⟨v, hv, pv⟩ := q.get hz
  exact ⟨z, by rw [hv, hs.vstr pv], hl⟩
/-- the heap that an error in the air leaves -/
theorem made_heap {H1 : Hp} {a d C : Addr} {fs : List (Str × V)} (na : H1 a = none) (ne : d ≠ a) : upd (del (upd (upd (upd H1 a (exo a C none)) d (exd d fs)) a (exo a C (some d))) a) d (.xd fs) = upd H1 d (.xd fs) := by
  funext b
  by_cases hb : b = d
  · subst hb; rw [upd_same, upd_same]
  · rw [upd_ne hb, upd_ne hb]
    by_cases ha : b = a
    · subst ha; rw [del_same, na]
    · rw [del_ne ha, upd_ne ha, upd_ne hb, upd_ne ha]
section
variable {X : Cx} {W : WX} {C : Addr} {nf : List (Str × Fs)} {n k j : Nat} {b : Bool} {x : Str} {p pos rpos : Pos} {e : Expr} {es : List Expr} {t : TA} {u : UA}
def tRaise (C : Addr) (nf : List (Str × Fs)) (n : Nat) (b : Bool) (W : WX) (t : TA) : TS := fun _ sg H => tMkO C (spIni C nf n (condV b)) [] t sg H fun cls d H' => W cls d sg H'
theorem imp_raise [Tabl] (hn0 : n ≤ 1000) (ha : ImpA W t u) : ImpS W (tRaise C nf n b W t) (uRaise C nf n b u) := fun {sg dl L H S T D D'} he hs h hD =>
  ha he hs h (fun ws ds L1 H1 S1 l1 p1 s1 ⟨hn, hc, xs, hx, hk⟩ => by
    obtain ⟨ys, L2, fv, l2, p2, s2⟩ := fd_fv p1 (.refl _) s1 hx
    refine ⟨by rw [p1.length, hn]; exact hn0, fun a na => ⟨a, ws, ys, by rw [List.append_nil], by rw [p1.length, hn], cond_ok s1 p1 hc, fv, upd_same, fun d nd ne => ?_⟩⟩
    have nd1 : H1 d = none := by rw [upd_ne ne] at nd; exact nd
    refine ⟨rfl, d, _, upd_same, by rw [upd_ne ne, upd_same], nd1, ?_⟩
    rw [made_heap na ne]
    have len : (nf.map (·.1)).length = ys.length := by
      rw [p2.length, ← hx.len, List.length_map, List.length_map]
    have s3 : SR (upd H1 d (.xd ((nf.map (·.1)).zip ys))) (Ladd L2 (.ref d) (.xd (nf.map (·.1)) xs)) S1 T := s2.tree nd1 fun R rho nr hL => by simp only [RD]; exact ⟨d, ys, rfl, nr, upd_same, len, Ls.rds hL p2⟩
    exact hD.ex ⟨C, nf.map (·.1), xs⟩ d sg dl _ _ _ ((l1.trans l2).trans Ladd.le) rfl (he.le ((l1.trans l2).trans Ladd.le)) Ladd.here s3 hk) (hD.ex.x rfl he)
theorem ds_raise [Tabl] (c : RaiseV X.prog X.w X.K X.mg X.base k C nf n b) (hr : Room j X.A) (hj : k + 1 ≤ j) (hm : X.mg x = some (.ref C)) (tk : Takes X W) (ha : DA X W (e :: es) t u) (hn0 : n ≤ 1000 := by decide) (hc : X.calm = true := by rfl) (hg : Gl X x := by rfl)
    (hdb : (x == ("__debug__" : Str)) = false := by decide) (he : starEach (e :: es) X.env = (false, eval e X.env) :: starEach es X.env := by rfl) (hpl : (backTo pos (starEach es X.env)).any (·.1) = false := by rfl) :
    DS X W (.Raise (some (.Call (.Name x p) (e :: es) [] pos)) none rpos) (tRaise C nf n b W t) (uRaise C nf n b u) := by
  obtain ⟨fI, fd, ps, T, iC, tI, F1, hb⟩ := c
  exact ⟨ps_raise hc tk (pmk_oex T iC tI F1 (hr.mono hj) hb .nil (fun _ _ _ _ _ _ _ z => (cx_none z).elim) hg hm ha.run hdb he hpl), imp_raise hn0 ha.imp⟩
end
section
variable {dl : Env'} {S : Store} {D : DEnds} {C : Addr} {nf : List (Str × Fs)} {n : Nat} {b : Bool} {ua : UA}
theorem x_raise (h : ua dl S (fun ds S1 => ds.length = n ∧ condD b ds ∧ ∃ xs, FD ds (nf.map (·.2)) xs ∧ D.ex ⟨C, nf.map (·.1), xs⟩ dl S1) (fun e S1 => D.ex e dl S1)) : uRaise C nf n b ua D dl S := h
end
end DL
/-! HX1: facts of own error classes, as Bools. -/
namespace DX
open PySem PySem.Spec PyProof.Rows L2 He
/-- OexC's class object, looked at -/
def clsB (K : PySem.W.Frag) (C : Addr) : Bool := match K.lookup C with
  | some ⟨.type t, _, .cls cd, sl⟩ => decide (t = "type") && (cd.hasDict && (!cd.hasDel && ((match cd.mro with
    | .ref c :: bm => decide (c = C) && PySem.HandSPX.refsVE bm
    | _ => false) && (match sl.toList with
    | [_, _, _, _, some (.builtin n), _] => decide (n = "ValueError.__new__")
    | _ => false))))
  | _ => false
def oexB (K : PySem.W.Frag) (C : Addr) : Bool := clsB K C && (eqO (PySem.W.findIn K (.ref C) "__setattr__") (some (some (.builtin "object.__setattr__"))) && (decide (PySem.W.subIn K (.ref C) (.type "BaseException") = some true) && (decide (PySem.W.typeIn K (.ref C) = some (.type "type")) && PySem.W.keepIn K (.ref C))))
theorem clsB_ok {K : PySem.W.Frag} {C : Addr} (h : clsB K C = true) : ∃ nm q N bs bm sn sub ab col dd k0 k1 k2 k3 k5, K.lookup C = some (excClassObj nm q C N bs bm true sn sub ab col dd k0 k1 k2 k3 k5 "ValueError.__new__") ∧ PySem.HandSPX.refsVE bm = true := by
  unfold clsB at h
  split at h
  · rename_i t od cd sl hl
    obtain ⟨h1, h⟩ := ba h
    obtain ⟨h2, h⟩ := ba h
    obtain ⟨h3, h⟩ := ba h
    obtain ⟨h4, h5⟩ := ba h
    have e1 := of_decide_eq_true h1
    subst e1
    split at h4
    · rename_i c bm hm
      obtain ⟨h6, h7⟩ := ba h4
      have e2 := of_decide_eq_true h6
      subst e2
      split at h5
      · rename_i k0 k1 k2 k3 n k5 hs
        have e3 := of_decide_eq_true h5
        subst e3
        obtain ⟨nm, bs, mro, ns, qn, hd, sn, sb, ab, col, del⟩ := cd
        have h3' : del = false := by simpa using h3
        have h2' : hd = true := h2
        have hm' : mro = .ref c :: bm := hm
        have hs' : sl = #[k0, k1, k2, k3, some (.builtin "ValueError.__new__"), k5] := by
          have := congrArg List.toArray hs
          simpa using this
        subst h3' h2' hm' hs'
        exact ⟨nm, qn, ns, bs, bm, sn, sb, ab, col, od, k0, k1, k2, k3, k5, hl, h7⟩
      · cases h5
    · cases h4
  · cases h
theorem oexB_ok {K : PySem.W.Frag} {C : Addr} (h : oexB K C = true) : OexC K C := by
  obtain ⟨h1, h⟩ := ba h
  obtain ⟨h2, h⟩ := ba h
  obtain ⟨h3, h⟩ := ba h
  obtain ⟨h4, h5⟩ := ba h
  exact ⟨clsB_ok h1, eqO_ok h2, of_decide_eq_true h3, of_decide_eq_true h4, h5⟩
def noneV : Value → Bool
  | .none => true
  | _ => false
theorem noneV_ok {v : Value} (h : noneV v = true) : v = .none := by
  cases v <;> first | rfl | cases h
/-- the __init__ of an own error: its class's name, its words -/
structure SupD where
  cls : Str
  qual : Str
  params : Arguments
  body : List Stmt
  scope : Scope
abbrev SupW : Type := Option (Str × Str × Arguments × FuncBody × Scope × Addr × List Str × Addr)
def supW (K : PySem.W.Frag) (f : Addr) : SupW := match K.lookup f with
  | some ⟨_, _, .func fd, _⟩ => some (fd.name, fd.qualname, fd.params, fd.body, fd.scope, fd.globals, fd.closure.map (·.1), fd.builtins)
  | _ => none
def SupD.val (d : SupD) : SupW := some ("__init__", d.qual, d.params, .stmts d.body, d.scope, mainGlobals, ["__class__"], builtinsNs)
abbrev initAd (K : PySem.W.Frag) (x : Str) : Addr := ma K (ga K x) "__init__"
def SupD.ok (K : PySem.W.Frag) (file : Str) (d : SupD) : Bool := oexB K (ga K d.cls) && ((match K.lookup (initAd K d.cls) with
  | some ⟨_, _, .func fd, _⟩ => PySem.W.codeIn K fd.code d.qual && (noneV fd.defaults && ((match fd.code with
    | .ref c => (match K.lookup c with
      | some ⟨_, _, .fields vs, _⟩ => (match (vs[2]? : Option Value) with
        | some (Value.str fl _) => file == fl
        | _ => false)
      | _ => false)
    | _ => false) && (match fd.closure with
    | [(_, cc)] => (match K.lookup cc with
      | some ⟨_, _, .cell (some (.ref C)), _⟩ => decide (C = ga K d.cls)
      | _ => false)
    | _ => false)))
  | _ => false) && (eqO (PySem.W.ks_superIn K (ga K d.cls) (ga K d.cls) "__init__") (some (some (.builtin "ValueError.__init__"))) && (decide (PySem.W.mroIn K (ga K d.cls) (.ref (ga K d.cls)) = some true) && (decide (PySem.W.subIn K (.ref (ga K d.cls)) (.type "ValueError") = some true) &&
  (eqO (PySem.W.nsIn K PySem.cStatics "thirdparty.any") (some none) && (eqO (PySem.W.findIn K (.ref (ga K d.cls)) "__init__") (some (some (.ref (initAd K d.cls)))) && decide (PySem.W.typeIn K (.ref (initAd K d.cls)) = some (.type "function"))))))))
theorem SupD.supK {P : Program} {K : PySem.W.Frag} {d : SupD} {x0 : Str} (e : supW K (initAd K d.cls) = d.val) (c : d.ok K P.main.file = true) (hp : ∃ ar, (d.params.posonlyargs ++ d.params.args).head? = some ar ∧ ar.arg = x0) (ht : (P.main.scope.names.lookup ("super" : Str)).isSome = false) :
    ∃ cc cda fd, SupK P K (ga K d.cls) (initAd K d.cls) cc cda "__init__" d.qual d.params d.body d.scope x0 fd ∧ fd.defaults = .none ∧ PySem.W.findIn K (.ref (ga K d.cls)) "__init__" = some (some (.ref (initAd K d.cls))) ∧ PySem.W.typeIn K (.ref (initAd K d.cls)) = some (.type "function") := by
  obtain ⟨h1, c⟩ := ba c
  obtain ⟨h2, c⟩ := ba c
  obtain ⟨h3, c⟩ := ba c
  obtain ⟨h4, c⟩ := ba c
  obtain ⟨h5, c⟩ := ba c
  obtain ⟨h6, c⟩ := ba c
  obtain ⟨h7, h8⟩ := ba c
  unfold supW at e
  split at h2
  · rename_i oc od fd osl lk
    rw [lk] at e
    obtain ⟨n1, n2, n3, n4, n5, n6, n7, n8, n9, n10, n11, n12, n13, n14, n15⟩ := fd
    have e2 : (some (n1, n2, n3, n4, n5, n6, n7.map (·.1), n15) : SupW) = (some ("__init__", d.qual, d.params, .stmts d.body, d.scope, mainGlobals, ["__class__"], builtinsNs) : SupW) := e
    simp only [Option.some.injEq, Prod.mk.injEq] at e2
    obtain ⟨a1, a2, a3, a4, a5, a6, a7, a8⟩ := e2
    obtain ⟨g1, g0⟩ := ba h2
    obtain ⟨gn, g0⟩ := ba g0
    obtain ⟨g2, g3⟩ := ba g0
    have gn : n8 = .none := noneV_ok gn
    subst gn
    split at g3
    · rename_i nm cc hcl
      have hcl : n7 = [(nm, cc)] := hcl
      subst hcl
      have a7 : [nm] = [("__class__" : Str)] := a7
      injection a7 with a7
      subst a1 a2 a3 a4 a5 a6 a7 a8
      split at g3
      · rename_i cl cld C csl lc
        have eC := of_decide_eq_true g3
        subst eC
        split at g2
        · rename_i cda hcd
          have hcd : n13 = .ref cda := hcd
          subst hcd
          have g4 : (match K.lookup cda with
            | some ⟨_, _, .fields vs, _⟩ => (match (vs[2]? : Option Value) with
              | some (Value.str fl _) => P.main.file == fl
              | _ => false)
            | _ => false) = true := g2
          cases lcd : K.lookup cda with
          | none => rw [lcd] at g4; cases g4
          | some o =>
            obtain ⟨kc, kd, dt, ksl⟩ := o
            rw [lcd] at g4
            cases dt with
            | fields vs =>
              have g5 : (match (vs[2]? : Option Value) with
                | some (Value.str fl _) => P.main.file == fl
                | _ => false) = true := g4
              cases hv : (vs[2]? : Option Value) with
              | none => rw [hv] at g5; cases g5
              | some v =>
                rw [hv] at g5
                cases v with
                | str fl tf => exact ⟨cc, cda, _, ⟨⟨oc, od, osl, _, _, _, _, _, _, rfl, lk⟩, g1, ⟨kc, kd, vs, ksl, fl, tf, lcd, hv, g5⟩, ⟨cl, cld, csl, lc⟩, oexB_ok h1, eqO_ok h3, of_decide_eq_true h4, of_decide_eq_true h5, eqO_ok h6, hp, ht⟩, rfl, eqO_ok h7, of_decide_eq_true h8⟩
                | _ => cases g5
            | _ => cases g4
        · cases g2
      · cases g3
    · cases g3
  · cases h2
/-- such an __init__ gets its arguments -/
theorem SupK.binds {P : Program} {K : PySem.W.Frag} {C f cc cda : Addr} {name qual x0 : Str} {params : Arguments} {body : List Stmt} {scope : Scope} {fd : FuncData} {ps : List Str} (T : SupK P K C f cc cda name qual params body scope x0 fd) (hd : fd.defaults = .none)
    (h : ∀ (kV doc pm : Value) (an : Option Addr) (cdv ct : Value) (us : List Value), us.length = ps.length → bindArgs (PySem.W.ksFn name qual params body scope .none kV doc pm an cdv ct cc) ⟨us, []⟩ = pure (ps.zip us)) : Binds K fd ps [] := by
  obtain ⟨oc, od, osl, dV, kV, doc, pm, an, ct, rfl, lk⟩ := T.fn
  have e : dV = .none := hd
  subst e
  exact .all (h kV doc pm an _ ct)
end DX
/-! HX2: the head's Hook: facts, defs, own errors' __init__s, tables. -/
namespace DX
open PySem PySem.Spec PyProof.Rows L2 He
structure SaysY (fa : List Fa) (fn : List DefD) (sd : List SupD) (tf : List Defn) (file : Str) (ex : PySem.W.Frag → Bool) (h : Heap) (K : PySem.W.Frag) : Prop where
  d : SaysD fa fn K
  sup : ∀ s ∈ sd, supW K (initAd K s.cls) = s.val ∧ s.ok K file = true
  more : ex K = true
  hd : ∀ p ∈ tf, PySem.W.codeHdIn K (cT K p).1 (cT K p).2 = true
  out : ∀ p ∈ tf, K.lookup (cT K p).2 = none
  empty : ∀ p ∈ tf, h.get? (cT K p).2 = some { cls := .none, data := .fields #[] }
abbrev AlY : Type := AlD × List SupW × Bool
def frY (g : Addr → Option Obj) (n : Nat) : PySem.W.Frag := frT g (PySem.cStatics :: asD g n)
def obsK (fa : List Fa) (fn : List DefD) (sd : List SupD) (tf : List Defn) (file : Str) (ex : PySem.W.Frag → Bool) (g : Addr → Option Obj) (K : PySem.W.Frag) : AlY := (obsD fa fn K, sd.map (fun s => supW K (initAd K s.cls)), (sd.all fun s => s.ok K file) && (ex K && tabsB g tf K))
def obsY (n : Nat) (fa : List Fa) (fn : List DefD) (sd : List SupD) (tf : List Defn) (file : Str) (ex : PySem.W.Frag → Bool) (g : Addr → Option Obj) : AlY := obsK fa fn sd tf file ex g (frY g n)
def valY (fn : List DefD) (sd : List SupD) : AlY := (valD fn, sd.map SupD.val, true)
theorem map_at {α β : Type} {f g : α → β} : ∀ {l : List α}, l.map f = l.map g → ∀ x ∈ l, f x = g x
  | [], _, x, h => by cases h
  | y :: r, e, x, h => by
    simp only [List.map_cons, List.cons.injEq] at e
    rcases List.mem_cons.mp h with q | q
    · subst q; exact e.1
    · exact map_at e.2 x q
theorem saysY_of {n : Nat} {fa : List Fa} {fn : List DefD} {sd : List SupD} {tf : List Defn} {file : Str} {ex : PySem.W.Frag → Bool} {h : Heap} (e : obsY n fa fn sd tf file ex h.get? = valY fn sd) : SaysY fa fn sd tf file ex h (frY h.get? n) := by
  have e1 : obsD fa fn (frY h.get? n) = valD fn := congrArg (fun z : AlY => z.1) e
  have e2 : sd.map (fun s => supW (frY h.get? n) (initAd (frY h.get? n) s.cls)) = sd.map SupD.val := congrArg (fun z : AlY => z.2.1) e
  have e3 : ((sd.all fun s => s.ok (frY h.get? n) file) && (ex (frY h.get? n) && tabsB h.get? tf (frY h.get? n))) = true := congrArg (fun z : AlY => z.2.2) e
  obtain ⟨h1, h2⟩ := ba e3
  obtain ⟨h2, h3⟩ := ba h2
  have key : ∀ p ∈ tf, PySem.W.codeHdIn (frY h.get? n) (cT (frY h.get? n) p).1 (cT (frY h.get? n) p).2 = true ∧ ∃ o, h.get? (cT (frY h.get? n) p).2 = some o ∧ emptyTab o = true := fun p hp => by
    obtain ⟨k1, k2⟩ := ba (List.all_eq_true.mp h3 p hp)
    refine ⟨k1, ?_⟩
    cases q : h.get? (cT (frY h.get? n) p).2 with
    | none => rw [q] at k2; cases k2
    | some o => rw [q] at k2; exact ⟨o, rfl, k2⟩
  refine ⟨e1, fun s hs => ⟨map_at e2 s hs, List.all_eq_true.mp h1 s hs⟩, h2, fun p hp => (key p hp).1, fun p hp => ?_, fun p hp => ?_⟩
  · obtain ⟨_, o, q, z⟩ := key p hp
    exact frT_none q z
  · obtain ⟨_, o, q, z⟩ := key p hp
    rw [q, emptyTab_eq z]
def hookY (n : Nat) (fa : List Fa) (fn : List DefD) (sd : List SupD) (tf : List Defn) (file : Str) (ex : PySem.W.Frag → Bool) : PySem.W.Hook where
  α := AlY
  obs := fun s => obsY n fa fn sd tf file ex s.heap.get?
  val := fun _ => valY fn sd
  says := fun _ h => ∃ K : PySem.W.Frag, K.In h ∧ SaysY fa fn sd tf file ex h K
  of := fun _ _ e => ⟨_, frT_in, saysY_of e⟩
  keeps := fun _ _ _ ⟨K, hK, c⟩ k => ⟨K, PySem.W.Frag.In.keeps hK k, ⟨c.d, c.sup, c.more, c.hd, c.out, fun p hp => k _ _ (c.empty p hp)⟩⟩
end DX
/-! HX3: the head's Hook with properties. -/
namespace DX
open PySem PySem.Spec PyProof.Rows L2 He
/-- a property: its class, its name, its getter's text -/
structure PrD where
  cls : Str
  name : Str
  qual : Str
  params : Arguments
  body : List Stmt
  scope : Scope
def propAd (K : PySem.W.Frag) (C : Addr) (m : Str) : Addr := match PySem.W.findIn K (.ref C) m with
  | some (some (.ref p)) => p
  | _ => 0
def gAd (K : PySem.W.Frag) (C : Addr) (m : Str) : Addr := match PySem.W.recIn K (propAd K C m) "property" with
  | some (.ref g :: _) => g
  | _ => 0
def prW (K : PySem.W.Frag) (d : PrD) : FnW := match K.lookup (gAd K (ga K d.cls) d.name) with
  | some ⟨_, _, .func fd, _⟩ => some (fd.name, fd.qualname, fd.params, fd.body, fd.scope, fd.globals, fd.closure, fd.builtins)
  | _ => none
def PrD.val (d : PrD) : FnW := some (d.name, d.qual, d.params, .stmts d.body, d.scope, mainGlobals, [], builtinsNs)
def PrD.ok (K : PySem.W.Frag) (d : PrD) : Bool := eqO (PySem.W.findIn K (.ref (ga K d.cls)) d.name) (some (some (.ref (propAd K (ga K d.cls) d.name)))) && (eqO (PySem.W.specialIn K (.ref (propAd K (ga K d.cls) d.name)) "__get__") (some (some (.builtin "property.__get__"))) &&
  (decide (PySem.W.takesIn K (.ref (propAd K (ga K d.cls) d.name)) = some true) && ((match PySem.W.recIn K (propAd K (ga K d.cls) d.name) "property" with
  | some (.ref g :: _) => decide (g = gAd K (ga K d.cls) d.name)
  | _ => false) && (PySem.W.keepIn K (.ref (gAd K (ga K d.cls) d.name)) && (match K.lookup (gAd K (ga K d.cls) d.name) with
  | some ⟨_, _, .func fd, _⟩ => PySem.W.codeIn K fd.code d.qual && (dflB K fd.defaults [] && kwdB K fd.kwdefaults [])
  | _ => false)))))
structure SaysZ (fa : List Fa) (fn : List DefD) (sd : List SupD) (pr : List PrD) (tf : List Defn) (file : Str) (ex : PySem.W.Frag → Bool) (h : Heap) (K : PySem.W.Frag) : Prop where
  y : SaysY fa fn sd tf file ex h K
  pr : ∀ d ∈ pr, prW K d = d.val ∧ d.ok K = true
abbrev AlZ : Type := AlY × List FnW × Bool
def obsZ (n : Nat) (fa : List Fa) (fn : List DefD) (sd : List SupD) (pr : List PrD) (tf : List Defn) (file : Str) (ex : PySem.W.Frag → Bool) (g : Addr → Option Obj) : AlZ := (obsK fa fn sd tf file ex g (frY g n), pr.map (prW (frY g n)), pr.all (PrD.ok (frY g n)))
def valZ (fn : List DefD) (sd : List SupD) (pr : List PrD) : AlZ := (valY fn sd, pr.map PrD.val, true)
theorem saysZ_of {n : Nat} {fa : List Fa} {fn : List DefD} {sd : List SupD} {pr : List PrD} {tf : List Defn} {file : Str} {ex : PySem.W.Frag → Bool} {h : Heap} (e : obsZ n fa fn sd pr tf file ex h.get? = valZ fn sd pr) : SaysZ fa fn sd pr tf file ex h (frY h.get? n) := by
  have e1 : obsY n fa fn sd tf file ex h.get? = valY fn sd := congrArg (fun z : AlZ => z.1) e
  have e2 : pr.map (prW (frY h.get? n)) = pr.map PrD.val := congrArg (fun z : AlZ => z.2.1) e
  have e3 : pr.all (PrD.ok (frY h.get? n)) = true := congrArg (fun z : AlZ => z.2.2) e
  exact ⟨saysY_of e1, fun d hd => ⟨map_at e2 d hd, List.all_eq_true.mp e3 d hd⟩⟩
def hookZ (n : Nat) (fa : List Fa) (fn : List DefD) (sd : List SupD) (pr : List PrD) (tf : List Defn) (file : Str) (ex : PySem.W.Frag → Bool) : PySem.W.Hook where
  α := AlZ
  obs := fun s => obsZ n fa fn sd pr tf file ex s.heap.get?
  val := fun _ => valZ fn sd pr
  says := fun _ h => ∃ K : PySem.W.Frag, K.In h ∧ SaysZ fa fn sd pr tf file ex h K
  of := fun _ _ e => ⟨_, frT_in, saysZ_of e⟩
  keeps := fun _ _ _ ⟨K, hK, c⟩ k => ⟨K, PySem.W.Frag.In.keeps hK k, ⟨⟨c.y.d, c.y.sup, c.y.more, c.y.hd, c.y.out, fun p hp => k _ _ (c.y.empty p hp)⟩, c.pr⟩⟩
theorem obsZ_eq {n : Nat} {fa : List Fa} {fn : List DefD} {sd : List SupD} {pr : List PrD} {tf : List Defn} {file : Str} {ex : PySem.W.Frag → Bool} {g : Addr → Option Obj} {s : Shared} (h : ∀ a, g a = s.heap.get? a) : obsZ n fa fn sd pr tf file ex g = (hookZ n fa fn sd pr tf file ex).obs s := by
  have e : g = s.heap.get? := funext h
  rw [e] <;> rfl
end DX
/-! HX4: what the head looks at of own classes whose instances are compared or asked for their kind. -/
namespace DL
open PySem PySem.Spec L2 PyProof.Rows
def oneB (K : PySem.W.Frag) (c : Str) : Bool :=
  He.Fa.ok K (.cls c) && (He.eqO (PySem.W.findIn K (.ref (He.ga K c)) "__class__") (some (some (.builtin "object.__class__"))) &&
  (He.eqO (PySem.W.specialIn K (.builtin "object.__class__") "__get__") (some (some (.builtin "getset_descriptor.__get__"))) && (decide (PySem.W.takesIn K (.builtin "object.__class__") = some true) &&
  (decide (PySem.W.mroIn K (He.ga K c) (.type "object") = some true) && (He.eqO (PySem.W.findIn K (.ref (He.ga K c)) "__ne__") (some (some (.builtin "object.__ne__"))) &&
  ["NoneType", "bool", "int", "str", "list", "tuple", "dict"].all fun t => decide (PySem.W.kitOne K (.type t) (.ref (He.ga K c)) = some false))))))
def pairB (K : PySem.W.Frag) (c d : Str) (b : Bool) : Bool := decide (PySem.W.kitOne K (.ref (He.ga K c)) (.ref (He.ga K d)) = some b) && decide (PySem.W.subIn K (.ref (He.ga K c)) (.ref (He.ga K d)) = some b)
end DL
/-! HX5: what the head looks at of a number that a class holds. -/
namespace DL
open PySem PySem.Spec L2 PyProof.Rows
def cvalB (K : PySem.W.Frag) (c f : Str) (n : Int) : Bool := PySem.W.readsIn K (He.ga K c) (.type "type") && (He.eqO (PySem.W.specialIn K (.ref (He.ga K c)) "__getattribute__") (some (some (.builtin "type.__getattribute__"))) &&
  (match PySem.W.findCls K (.ref (He.ga K c)) (.type "type") f with
   | some (.val (.int i _)) => decide (i = n)
   | _ => false))
end DL
namespace DL
open PySem L2
def errs : List PySem.Str := []
def top (i : Nat) : Stmt := PySem.Challenge.pw_onlyahead_k24_great_circuits.main.body.getD i (.Pass ⟨0, 0, 0, 0⟩)
abbrev s_is_number : Stmt := top 11
abbrev s_is_prime : Stmt := top 12
abbrev s_ascends : Stmt := top 13
abbrev s_is_alphabet : Stmt := top 14
abbrev s_is_word : Stmt := top 15
abbrev s_need_alphabet : Stmt := top 16
abbrev s_need_word : Stmt := top 17
abbrev s_is_table : Stmt := top 29
abbrev s_size_of_table : Stmt := top 30
abbrev s_size_of_cell : Stmt := top 31
abbrev s_size_of_line : Stmt := top 32
abbrev s_refs_of : Stmt := top 33
abbrev s_is_cell : Stmt := top 34
abbrev s_changed : Stmt := top 35
abbrev s_Circuit_init : Stmt := inClass (top 36) 1
abbrev s_Circuit_sizes : Stmt := inClass (top 36) 6
abbrev s_Circuit_first_sides : Stmt := inClass (top 36) 8
abbrev s_Circuit_value_of : Stmt := inClass (top 36) 9
abbrev s_Circuit_line_values : Stmt := inClass (top 36) 10
abbrev s_Circuit_stepped : Stmt := inClass (top 36) 11
abbrev s_Circuit_value_with : Stmt := inClass (top 36) 12
abbrev s_Circuit_sides_after : Stmt := inClass (top 36) 13
abbrev s_Circuit_after : Stmt := inClass (top 36) 14
abbrev s_law_bag : Stmt := top 40
abbrev s_law_pull : Stmt := top 41
abbrev s_law_of : Stmt := top 42
abbrev s_law_same : Stmt := top 43
abbrev s_law_text : Stmt := top 44
abbrev s_law_values : Stmt := top 45
abbrev s_law_begin : Stmt := top 46
abbrev s_law_step : Stmt := top 47
abbrev s_law_run : Stmt := top 48
abbrev s_law_greatest_so : Stmt := top 49
abbrev s_law : Stmt := top 50
abbrev s_InvalidAlphabet_init : Stmt := inClass (top 3) 0
abbrev s_InvalidWord_init : Stmt := inClass (top 4) 0
abbrev s_InvalidLine_init : Stmt := inClass (top 5) 0
abbrev s_TooMany_init : Stmt := inClass (top 7) 0
end DL
namespace DL.KL
open PySem L2 DL
abbrev R : PySem.W.OpenRow := PySem.W.OpenLaw.row PySem.Challenge.rw_onlyahead_k24_great_circuits
def sd_InvalidAlphabet : DX.SupD := ⟨"InvalidAlphabet", "InvalidAlphabet.__init__", defArgs s_InvalidAlphabet_init, defBody s_InvalidAlphabet_init, defScope s_InvalidAlphabet_init⟩
def sd_InvalidWord : DX.SupD := ⟨"InvalidWord", "InvalidWord.__init__", defArgs s_InvalidWord_init, defBody s_InvalidWord_init, defScope s_InvalidWord_init⟩
def sd_InvalidLine : DX.SupD := ⟨"InvalidLine", "InvalidLine.__init__", defArgs s_InvalidLine_init, defBody s_InvalidLine_init, defScope s_InvalidLine_init⟩
def sd_TooMany : DX.SupD := ⟨"TooMany", "TooMany.__init__", defArgs s_TooMany_init, defBody s_TooMany_init, defScope s_TooMany_init⟩
def sd : List DX.SupD := [sd_InvalidAlphabet, sd_InvalidWord, sd_InvalidLine, sd_TooMany]
def flds : List PySem.Str := ["code", "given", "at", "row", "name", "subject", "most"]
def exO (K : PySem.W.Frag) : Bool := true
def ex (K : PySem.W.Frag) : Bool := (true && (errs ++ (["InvalidAlphabet", "InvalidWord", "InvalidLine", "TooMany"] : List PySem.Str)).all fun x => xfB K (He.ga K x) && flds.all fun f => He.eqO (PySem.W.findIn K (.ref (He.ga K x)) f) (some none)) && exO K
def file : PySem.Str := PySem.Challenge.pw_onlyahead_k24_great_circuits.main.file
def tf : List He.Defn := []
def dd_is_number : He.DefD := ⟨("is_number", none), "is_number", "is_number", defArgs s_is_number, defBody s_is_number, defScope s_is_number, [.non], []⟩
def dd_is_prime : He.DefD := ⟨("is_prime", none), "is_prime", "is_prime", defArgs s_is_prime, defBody s_is_prime, defScope s_is_prime, [], []⟩
def dd_ascends : He.DefD := ⟨("ascends", none), "ascends", "ascends", defArgs s_ascends, defBody s_ascends, defScope s_ascends, [], []⟩
def dd_is_alphabet : He.DefD := ⟨("is_alphabet", none), "is_alphabet", "is_alphabet", defArgs s_is_alphabet, defBody s_is_alphabet, defScope s_is_alphabet, [], []⟩
def dd_is_word : He.DefD := ⟨("is_word", none), "is_word", "is_word", defArgs s_is_word, defBody s_is_word, defScope s_is_word, [], []⟩
def dd_need_alphabet : He.DefD := ⟨("need_alphabet", none), "need_alphabet", "need_alphabet", defArgs s_need_alphabet, defBody s_need_alphabet, defScope s_need_alphabet, [], []⟩
def dd_need_word : He.DefD := ⟨("need_word", none), "need_word", "need_word", defArgs s_need_word, defBody s_need_word, defScope s_need_word, [], []⟩
def dd_is_table : He.DefD := ⟨("is_table", none), "is_table", "is_table", defArgs s_is_table, defBody s_is_table, defScope s_is_table, [], []⟩
def dd_size_of_table : He.DefD := ⟨("size_of_table", none), "size_of_table", "size_of_table", defArgs s_size_of_table, defBody s_size_of_table, defScope s_size_of_table, [], []⟩
def dd_size_of_cell : He.DefD := ⟨("size_of_cell", none), "size_of_cell", "size_of_cell", defArgs s_size_of_cell, defBody s_size_of_cell, defScope s_size_of_cell, [], []⟩
def dd_size_of_line : He.DefD := ⟨("size_of_line", none), "size_of_line", "size_of_line", defArgs s_size_of_line, defBody s_size_of_line, defScope s_size_of_line, [], []⟩
def dd_refs_of : He.DefD := ⟨("refs_of", none), "refs_of", "refs_of", defArgs s_refs_of, defBody s_refs_of, defScope s_refs_of, [], []⟩
def dd_is_cell : He.DefD := ⟨("is_cell", none), "is_cell", "is_cell", defArgs s_is_cell, defBody s_is_cell, defScope s_is_cell, [], []⟩
def dd_changed : He.DefD := ⟨("changed", none), "changed", "changed", defArgs s_changed, defBody s_changed, defScope s_changed, [], []⟩
def dd_Circuit_init : He.DefD := ⟨("Circuit", some "__init__"), "__init__", "Circuit.__init__", defArgs s_Circuit_init, defBody s_Circuit_init, defScope s_Circuit_init, [], []⟩
def dd_Circuit_sizes : He.DefD := ⟨("Circuit", some "sizes"), "sizes", "Circuit.sizes", defArgs s_Circuit_sizes, defBody s_Circuit_sizes, defScope s_Circuit_sizes, [], []⟩
def dd_Circuit_first_sides : He.DefD := ⟨("Circuit", some "first_sides"), "first_sides", "Circuit.first_sides", defArgs s_Circuit_first_sides, defBody s_Circuit_first_sides, defScope s_Circuit_first_sides, [], []⟩
def dd_Circuit_value_of : He.DefD := ⟨("Circuit", some "value_of"), "value_of", "Circuit.value_of", defArgs s_Circuit_value_of, defBody s_Circuit_value_of, defScope s_Circuit_value_of, [], []⟩
def dd_Circuit_line_values : He.DefD := ⟨("Circuit", some "line_values"), "line_values", "Circuit.line_values", defArgs s_Circuit_line_values, defBody s_Circuit_line_values, defScope s_Circuit_line_values, [], []⟩
def dd_Circuit_stepped : He.DefD := ⟨("Circuit", some "stepped"), "stepped", "Circuit.stepped", defArgs s_Circuit_stepped, defBody s_Circuit_stepped, defScope s_Circuit_stepped, [], []⟩
def dd_Circuit_value_with : He.DefD := ⟨("Circuit", some "value_with"), "value_with", "Circuit.value_with", defArgs s_Circuit_value_with, defBody s_Circuit_value_with, defScope s_Circuit_value_with, [], []⟩
def dd_Circuit_sides_after : He.DefD := ⟨("Circuit", some "sides_after"), "sides_after", "Circuit.sides_after", defArgs s_Circuit_sides_after, defBody s_Circuit_sides_after, defScope s_Circuit_sides_after, [], []⟩
def dd_Circuit_after : He.DefD := ⟨("Circuit", some "after"), "after", "Circuit.after", defArgs s_Circuit_after, defBody s_Circuit_after, defScope s_Circuit_after, [], []⟩
def dd_law_bag : He.DefD := ⟨("_law_bag", none), "_law_bag", "_law_bag", defArgs s_law_bag, defBody s_law_bag, defScope s_law_bag, [], []⟩
def dd_law_pull : He.DefD := ⟨("_law_pull", none), "_law_pull", "_law_pull", defArgs s_law_pull, defBody s_law_pull, defScope s_law_pull, [], []⟩
def dd_law_of : He.DefD := ⟨("_law_of", none), "_law_of", "_law_of", defArgs s_law_of, defBody s_law_of, defScope s_law_of, [], []⟩
def dd_law_same : He.DefD := ⟨("_law_same", none), "_law_same", "_law_same", defArgs s_law_same, defBody s_law_same, defScope s_law_same, [], []⟩
def dd_law_text : He.DefD := ⟨("_law_text", none), "_law_text", "_law_text", defArgs s_law_text, defBody s_law_text, defScope s_law_text, [], []⟩
def dd_law_values : He.DefD := ⟨("_law_values", none), "_law_values", "_law_values", defArgs s_law_values, defBody s_law_values, defScope s_law_values, [], []⟩
def dd_law_begin : He.DefD := ⟨("_law_begin", none), "_law_begin", "_law_begin", defArgs s_law_begin, defBody s_law_begin, defScope s_law_begin, [], []⟩
def dd_law_step : He.DefD := ⟨("_law_step", none), "_law_step", "_law_step", defArgs s_law_step, defBody s_law_step, defScope s_law_step, [], []⟩
def dd_law_run : He.DefD := ⟨("_law_run", none), "_law_run", "_law_run", defArgs s_law_run, defBody s_law_run, defScope s_law_run, [], []⟩
def dd_law_greatest_so : He.DefD := ⟨("_law_greatest_so", none), "_law_greatest_so", "_law_greatest_so", defArgs s_law_greatest_so, defBody s_law_greatest_so, defScope s_law_greatest_so, [], []⟩
def dd_law : He.DefD := ⟨("law", none), "law", "law", defArgs s_law, defBody s_law, defScope s_law, [], []⟩
def fa : List He.Fa := ([.free "int", .free "isinstance", .free "bool", .glo "is_number", .free "zip", .free "all", .free "str", .free "len", .int "MOST_LETTERS" 4, .str "SMALL" "abcdefghijklmnopqrstuvwxyz"] : List He.Fa) ++ ([.glo "ascends", .glo "is_alphabet", .glo "InvalidAlphabet", .glo "is_word", .glo "InvalidWord", .free "tuple", .int "MOST_VALUE" 999, .glo "is_table", .free "max", .int "MOST_PRIME" 97] : List He.Fa) ++ ([.glo "is_prime", .glo "size_of_cell", .glo "size_of_table", .free "list", .glo "need_alphabet", .glo "InvalidLine", .int "MOST_LINES" 4000, .glo "TooMany", .free "enumerate", .glo "size_of_line"] : List He.Fa) ++ ([.glo "is_cell", .glo "refs_of", .free "any", .cls "Circuit", .noat "Circuit" "own_alphabet", .noat "Circuit" "own_lines", .noat "Circuit" "own_sizes", .noat "Circuit" "looking", .noat "Circuit" "own_cells", .glo "changed"] : List He.Fa) ++ ([.glo "need_word", .free "abs", .glo "_law_pull", .glo "_law_same", .free "range", .glo "_law_of", .glo "_law_values", .glo "_law_begin", .glo "_law_step", .glo "Circuit"] : List He.Fa) ++ ([.glo "_law_bag", .glo "_law_text", .glo "_law_run", .glo "_law_greatest_so", .meth "Circuit" "value_of", .meth "Circuit" "line_values", .meth "Circuit" "first_sides", .meth "Circuit" "stepped", .meth "Circuit" "sides_after", .meth "Circuit" "value_with"] : List He.Fa) ++ ([.meth "Circuit" "after", .meth "Circuit" "sizes", .mkr "Circuit", .free "super", .glo "law"] : List He.Fa)
def fn : List He.DefD := ([dd_is_number, dd_is_prime, dd_ascends, dd_is_alphabet, dd_is_word, dd_need_alphabet, dd_need_word, dd_is_table, dd_size_of_table, dd_size_of_cell] : List He.DefD) ++ ([dd_size_of_line, dd_refs_of, dd_is_cell, dd_changed, dd_Circuit_init, dd_Circuit_sizes, dd_Circuit_first_sides, dd_Circuit_value_of, dd_Circuit_line_values, dd_Circuit_stepped] : List He.DefD) ++ ([dd_Circuit_value_with, dd_Circuit_sides_after, dd_Circuit_after, dd_law_bag, dd_law_pull, dd_law_of, dd_law_same, dd_law_text, dd_law_values, dd_law_begin] : List He.DefD) ++ ([dd_law_step, dd_law_run, dd_law_greatest_so, dd_law] : List He.DefD)
def pr : List DX.PrD := []
abbrev hk : PySem.W.Hook := DX.hookZ 6 fa fn sd pr tf file ex
def ob (s : PySem.W.SharedT) : DX.AlZ := DX.obsZ 6 fa fn sd pr tf file ex (HandSHeadRun.getT s)
theorem ob_eq (s : PySem.W.SharedT) : ob s = hk.obs s.abs := DX.obsZ_eq (HandSHeadRun.getT_eq s)
def names : List PySem.Str := (["_wall", "AheadError", "InvalidAlphabet", "InvalidWord", "InvalidLine", "InvalidText", "TooMany", "SMALL", "MOST_LETTERS", "is_number", "is_prime", "ascends"] : List PySem.Str) ++ (["is_alphabet", "is_word", "need_alphabet", "need_word", "FIGURES", "MOST_FIGURES", "number_in", "numbers_in", "rows_of", "words_of", "MOST_LINES", "MOST_VALUE"] : List PySem.Str) ++ (["MOST_PRIME", "is_table", "size_of_table", "size_of_cell", "size_of_line", "refs_of", "is_cell", "changed", "Circuit", "row_of", "line_in", "_law_bag"] : List PySem.Str) ++ (["_law_pull", "_law_of", "_law_same", "_law_text", "_law_values", "_law_begin", "_law_step", "_law_run", "_law_greatest_so"] : List PySem.Str)
theorem run (w : World) : HandSHeadRun.RunEq R (PySem.W.view R.prog [50]) hk ob 8000 names w := by
  intro os
  kernel_rfl
end DL.KL
/-! WC: a step of a reading, found by instances. -/
namespace DL
open PySem L2
class Step (P : Prop) (Q : outParam Prop) : Prop where
  go : Q → P
theorem Step.h {P Q : Prop} [s : Step P Q] (h : Q) : P := s.go h
class Open (P : Prop) (Q : outParam Prop) : Prop where
  go : Q → P
theorem Open.h {P Q : Prop} [s : Open P Q] (h : Q) : P := s.go h
/-- what comes behind a promise -/
def goK (K : KE) : KE := K
instance {K : KE} {d : Dat} {S : Store} : Step (goK K d S) (K d S) := ⟨fun h => h⟩
class At (dl : Env') (i : Nat) (d : outParam Dat) : Prop where
  at_ : dl[i]? = some (some d)
instance {d : Dat} {dl : Env'} : At (some d :: dl) 0 d := ⟨rfl⟩
instance {x : Option Dat} {d : Dat} {dl : Env'} {i : Nat} [h : At dl i d] : At (x :: dl) (i + 1) d := ⟨by rw [List.getElem?_cons_succ]; exact h.at_⟩
instance {i : Nat} {d : Dat} {dl : Env'} {S : Store} {K : KE} {X : KX} [h : At dl i d] : Step (uVar i dl S K X) (K d S) := ⟨x_var h.at_⟩
end DL
/-! DY1: lambdas are made. -/
namespace DL
open PySem PySem.Spec L2 PyProof.Rows
/-- a reading over data as a reading over values -/
def tOf [Tabl] (W : WX) (u : UE) : TE := fun sg H Q => ∃ dl L S T K X, EnvIn sg dl L ∧ SR H L S T ∧ u dl S K X ∧ EOk L T K Q ∧ XOk W sg L T X
section
variable {M : Model} {A : Around} {E : Value → Shared → Prop} {s : Shared} {qual : Str} {params : Arguments} {body : Expr} {scope : Scope} {env : Env} {c P : Addr} {ps : Array Value} {pos : Pos} {firstLine : Nat} {mg : Str → Option Value} {clos : List (Str × Addr)} {Q : Value → Shared → Prop} {dV : Value}
abbrev lamObj (qual : Str) (params : Arguments) (body : Expr) (scope : Scope) (clos : List (Str × Addr)) (dV pm cv ctv : Value) : Obj :=
  { cls := .type "function", data := .func { name := "<lambda>", qualname := qual, params := params, body := .expr body, scope := scope, globals := mainGlobals, closure := clos, defaults := dV, kwdefaults := .none, doc := .none, pyModule := pm, annotations := none, code := cv, closureTuple := ctv, builtins := builtinsNs } }
end
section
variable {X : Cx} {pins : List (Addr × Obj)} {sg : L2.St} {H : Hp} {s : Shared}
end
def uLam (l : LamI) (cl : List (Str × Addr)) : UE := fun _ S K _ => K (.fn l cl) S
/-- what is asked of a lambda's text -/
structure LamT (l : LamI) (sc : Scope) : Prop where
  free : ∀ y ∈ l.scope.names, y.2 = .free → sc.names.lookup y.1 = some .cell ∨ sc.names.lookup y.1 = some .free
  dfl : (l.par = none ∧ l.params.defaults = []) ∨ ∃ j p, l.par ≠ none ∧ l.params.defaults = [.Constant (.int 0) j p]
  kw : l.params.kw_defaults = [] ∧ l.params.kwonlyargs = []
end DL
/-! DY2: cells of a frame that waits are known, and forgotten again. -/
namespace DL
open PySem PySem.Spec L2 PyProof.Rows
abbrev Cels := List (Addr × Obj)
def strip (cs : Cels) (H : Hp) : Hp := fun a => if (cs.lookup a).isSome = true then none else H a
def addc (cs : Cels) (H : Hp) : Hp := fun a => match cs.lookup a with
  | some o => some (CelO a o)
  | none => H a
/-- they are cells -/
def CelsOk (cs : Cels) : Prop := ∀ a o, cs.lookup a = some o → ∃ u, o.data = .cell u
section
variable {P : Program} {w : World} {H H1 H2 : Hp} {h h1 : Heap} {cs : Cels} {fs ex : List Addr}
theorem strip_in {a : Addr} {o : Obj} (e : cs.lookup a = some o) : strip cs H a = none := by
  unfold strip
  rw [e]
  rfl
theorem strip_out {a : Addr} (e : cs.lookup a = none) : strip cs H a = H a := by
  unfold strip
  rw [e]
  rfl
theorem addc_in {a : Addr} {o : Obj} (e : cs.lookup a = some o) : addc cs H a = some (CelO a o) := by
  unfold addc
  rw [e]
theorem addc_out {a : Addr} (e : cs.lookup a = none) : addc cs H a = H a := by
  unfold addc
  rw [e]
/-- what was tracked is no cell of theirs -/
theorem out_of {a : Addr} {o : HO} (hn : ∀ a o, cs.lookup a = some o → H a = none) (e : H a = some o) : cs.lookup a = none := by
  cases q : cs.lookup a with
  | none => rfl
  | some x => rw [hn a x q] at e; cases e
theorem addc_keep {a : Addr} {o : HO} (hn : ∀ a o, cs.lookup a = some o → H a = none) (e : H a = some o) : addc cs H a = some o := by rw [addc_out (out_of hn e)]; exact e
theorem out_ext {a : Addr} {o : HO} (hc : ∀ a o, cs.lookup a = some o → H a = some (CelO a o)) (e : H a = some o) (ne : ∀ Q, o ≠ .ext Q) : cs.lookup a = none := by
  cases q : cs.lookup a with
  | none => rfl
  | some x =>
    rw [hc a x q] at e
    injection e with e
    exact (ne _ e.symm).elim
theorem strip_keep {a : Addr} {o : HO} (hc : ∀ a o, cs.lookup a = some o → H a = some (CelO a o)) (e : H a = some o) (ne : ∀ Q, o ≠ .ext Q) : strip cs H a = some o := by rw [strip_out (out_ext hc e ne)]; exact e
theorem HOk.addc (x : HOk P w H h) (hc : ∀ a o, cs.lookup a = some o → h.get? a = some o ∧ H a = none) : HOk P w (addc cs H) h := fun b u e => by
  cases q : cs.lookup b with
  | some o =>
    rw [addc_in q] at e
    injection e with e
    subst e
    exact ⟨(hc b o q).1, ⟨_, (hc b o q).1⟩, fun h1 h2 z st => st _ z⟩
  | none =>
    rw [addc_out q] at e
    exact (x b u e).stay (fun _ _ _ z => z) (fun c z => addc_keep (fun a o e => (hc a o e).2) z) fun c xs z => addc_keep (fun a o e => (hc a o e).2) z
theorem HOk.strip (x : HOk P w H h) (hc : ∀ a o, cs.lookup a = some o → H a = some (CelO a o)) : HOk P w (strip cs H) h := fun b u e => by
  cases q : cs.lookup b with
  | some o => rw [strip_in q] at e; cases e
  | none =>
    rw [strip_out q] at e
    exact (x b u e).stay (fun _ _ _ z => z) (fun c z => strip_keep hc z fun _ y => by cases y) fun c xs z => strip_keep hc z fun _ y => by cases y
theorem celO_get (x : HOk P w H h) {a : Addr} {o : Obj} (e : H a = some (CelO a o)) : h.get? a = some o := (x a _ e).1
/-- behind a call that ran with the cells known -/
theorem Un.back (u : Un fs ex (addc cs H) H2 h h1) (h0 : ∀ a o, cs.lookup a = some o → h.get? a = some o ∧ H a = none) (x : HOk P w H2 h1) (hc : ∀ a o, cs.lookup a = some o → H2 a = some (CelO a o)) : Un fs ex H (strip cs H2) h h1 := by
  have hn : ∀ a o, cs.lookup a = some o → H a = none := fun a o e => (h0 a o e).2
  refine ⟨fun b o e n f y => ?_, fun b o e n f y => ?_, fun b o e n y => ?_, u.there, fun b xs e => ?_, fun b o xs e => ?_, fun b ps e => ?_⟩
  · cases q : cs.lookup b with
    | some o' =>
      have := (h0 b o' q).1
      rw [e] at this
      injection this with this
      subst this
      exact celO_get x (hc b o q)
    | none => exact u.keep b o e (by rw [addc_out q]; exact n) f y
  · cases q : cs.lookup b with
    | some o' =>
      have := (h0 b o' q).1
      rw [e] at this
      injection this with this
      subst this
      exact ⟨o.slots, celO_get x (hc b o q)⟩
    | none => exact u.slot b o e (by rw [addc_out q]; exact n) f y
  · cases q : cs.lookup b with
    | some o' => exact strip_in q
    | none => rw [strip_out q]; exact u.free b o e (by rw [addc_out q]; exact n) y
  · exact strip_keep hc (u.tups b xs (addc_keep hn e)) fun _ z => by cases z
  · exact strip_keep hc (u.frzs b o xs (addc_keep hn e)) fun _ z => by cases z
  · obtain ⟨m, z⟩ := u.tbls b ps (addc_keep hn e)
    exact ⟨m, strip_keep hc z fun _ z => by cases z⟩
end
/-! ### the state -/
/-- without cells; with them -/
abbrev bas (tb : List (Addr × Str)) : Tabl := ⟨tb, [], fun _ _ => False⟩
abbrev wth (tb : List (Addr × Str)) (cs : Cels) (ow : LL) : Tabl := ⟨tb, cs, ow⟩
section
variable {P : Program} {w : World} {H : Hp} {h : Heap} {cs : Cels} {L : LL} {S : Store} {T : List (Addr × HO)} {tb : List (Addr × Str)}
theorem SR.into (hs : @SR (bas tb) H L S T) (hn : ∀ a o, cs.lookup a = some o → H a = none) {ow : LL} (ho : Lle ow L) : @SR (wth tb cs ow) (addc cs H) L S T := by
  obtain ⟨rho, ⟨len, nd, node, pin, rd, tab, cel, own, ntb⟩⟩ := hs
  have md : Mild H (addc cs H) := fun b o e _ => addc_keep hn e
  have m : Mono H (addc cs H) (rho ++ T.map (·.1)) (rho ++ T.map (·.1)) rho rho := ⟨fun a o _ e _ _ => addc_keep hn e, fun _ h => .inl h, fun _ _ h => h, fun _ _ _ => FnAt.mono md.ext⟩
  refine Exists.intro rho (@SRx.mk (wth tb cs ow) _ _ _ _ _ len nd (fun n a d h1 h2 => ?_) (fun p hp => addc_keep hn (pin p hp)) (fun v d h => RD.mono m (rd v d h)) (md.tabs tab) (fun a o e => addc_in e) (fun v d h => RD.mono m (rd v d (ho v d h))) fun p hp => ⟨(ntb p hp).1, fun Q e => ⟨(by
    cases q : cs.lookup p.1 with
    | none => rfl
    | some o => (have z := pin p hp); (rw [hn _ o q] at z); (cases z)), ((ntb p hp).2 Q e).2⟩⟩)
  have y := node n a d h1 h2
  obtain ⟨o, e⟩ := y.some
  exact y.mono m (by rw [addc_keep hn e]; exact e)
/-- a function's object, its code object, its defaults are no cells -/
theorem fnAt_strip {l : LamI} {cl : List (Str × Addr)} {f : Addr} (x : HOk P w H h) (hc : ∀ a o, cs.lookup a = some o → H a = some (CelO a o)) (co : CelsOk cs) (k : FnAt H l cl f) : FnAt (strip cs H) l cl f := by
  have key : ∀ {a : Addr} {φ : Heap → Prop}, H a = some (.ext φ) → (∀ o, h.get? a = some o → φ h → ∀ u, o.data ≠ .cell u) → strip cs H a = some (.ext φ) := fun {a φ} e ne => by
    cases q : cs.lookup a with
    | none => rw [strip_out q]; exact e
    | some o =>
      obtain ⟨u, hu⟩ := co a o q
      exact (ne o (celO_get x (hc a o q)) (x a _ e).1 u hu).elim
  obtain ⟨c, dV, h1, h2, h3⟩ := k
  refine ⟨c, dV, key h1 ?_, key h2 ?_, ?_⟩
  · rintro o e ⟨pm, ctv, z⟩ u hu
    rw [e] at z
    injection z with z
    subst z
    cases hu
  · rintro o e ⟨oc, vs, t, z, z2, z3⟩ u hu
    rw [e] at z
    injection z with z
    subst z
    rw [z2] at hu
    cases hu
  · rcases h3 with h3 | ⟨D, e, h3, h4⟩
    · exact .inl h3
    · refine .inr ⟨D, e, key h3 ?_, h4⟩
      rintro o e ⟨v, z⟩ u hu
      rw [e] at z
      injection z with z
      subst z
      cases hu
theorem codeO_strip {c : Addr} {q : Str} (x : HOk P w H h) (hc : ∀ a o, cs.lookup a = some o → H a = some (CelO a o)) (co : CelsOk cs) (k : H c = some (LamX.CodeO c q)) : strip cs H c = some (LamX.CodeO c q) := by
  cases e : cs.lookup c with
  | none => rw [strip_out e]; exact k
  | some o =>
    obtain ⟨u, hu⟩ := co c o e
    obtain ⟨⟨oc, vs, t, z, z2, z3⟩, _⟩ := x c _ k
    rw [celO_get x (hc c o e)] at z
    injection z with z
    subst z
    rw [z2] at hu
    cases hu
theorem SR.back {ow : LL} (hs : @SR (wth tb cs ow) H L S T) (x0 : HOk P w H h) (co : CelsOk cs) : @SR (bas tb) (strip cs H) L S T := by
  obtain ⟨rho, ⟨len, nd, node, pin, rd, tab, cel, own, ntb⟩⟩ := hs
  have hc : ∀ a o, cs.lookup a = some o → H a = some (CelO a o) := cel
  have m : Mono H (strip cs H) (rho ++ T.map (·.1)) (rho ++ T.map (·.1)) rho rho := ⟨fun a o _ e _ ne => strip_keep hc e ne, fun _ h => .inl h, fun _ _ h => h, fun _ _ _ => fnAt_strip x0 hc co⟩
  refine Exists.intro rho (@SRx.mk (bas tb) _ _ _ _ _ len nd (fun n a d h1 h2 => ?_) (fun p hp => by
    cases q : cs.lookup p.1 with
    | none => rw [strip_out q]; exact pin p hp
    | some o =>
      have z := pin p hp
      rw [hc _ o q] at z
      injection z with z
      have y := ((ntb p hp).2 _ z.symm).1
      rw [show (Tabl.cels (self := wth tb cs ow)) = cs from rfl, q] at y
      cases y) (fun v d h => RD.mono m (rd v d h)) (fun p hp => ?_) (fun a o e => (by cases e)) (fun v d h => h.elim) fun p hp => ⟨(ntb p hp).1, fun Q e => ⟨rfl, ((ntb p hp).2 Q e).2⟩⟩)
  · have y := node n a d h1 h2
    refine y.mono m ?_
    cases d with
    | lst xs => obtain ⟨vs, e, _⟩ := y; rw [e, strip_keep hc e fun _ z => by cases z]
    | dct ks xs => obtain ⟨vs, e, _⟩ := y; rw [e, strip_keep hc e fun _ z => by cases z]
    | dtt ks xs => obtain ⟨vs, e, _⟩ := y; rw [e, strip_keep hc e fun _ z => by cases z]
    | ins C ns xs => obtain ⟨dx, vs, e, _⟩ := y; rw [e, strip_keep hc e fun _ z => by cases z]
    | _ => exact y.elim
  · obtain ⟨ps, a1, a2, a3⟩ := tab p hp
    refine ⟨ps, strip_keep hc a1 (fun _ z => by cases z), a2, fun p' cv hcv => ?_⟩
    obtain ⟨c0, e1, e2⟩ := a3 p' cv hcv
    exact ⟨c0, e1, codeO_strip x0 hc co e2⟩
end
end DL
/-! DY3: a lambda is called, in a def that got it. -/
namespace DL
open PySem PySem.Spec L2 PyProof.Rows NdefX
abbrev nfOf (l : LamI) (cl : List (Str × Addr)) (c : Addr) : NF := ⟨"<lambda>", l.qual, l.params, [], l.scope, cloFrom cl l.scope.names [], c⟩
def parNs (l : LamI) : List Str := match l.par with
  | none => []
  | some a => [a]
def parDs (l : LamI) : List Dat := match l.par with
  | none => []
  | some _ => [.int 0]
/-- the lambda's names at its start -/
def startL (l : LamI) (N : List Str) (ds : List (Option Dat)) : Env' := (parDs l).map some ++ (ds ++ List.replicate (N.length - (parDs l).length - ds.length) none)
/-- what is asked of the lambda's text -/
structure LamK (l : LamI) (N fr : List Str) : Prop where
  sc : NScope N (parNs l) fr l.scope
  b0 : l.par = none → ∀ cl c pm ctv, bindArgs (lamFd l cl c .none pm ctv) ⟨[], []⟩ = pure []
  b1 : ∀ a, l.par = some a → ∀ cl c D pm ctv, ∃ k, bindArgs (lamFd l cl c (.ref D) pm ctv) ⟨[], []⟩ = seqItems? (.ref D) >>= k ∧ ∀ u, k (some #[u]) = pure [(a, u)]
/-- what its cells hold -/
structure Capt (cs : Cels) (ow : LL) (l : LamI) (cl : List (Str × Addr)) (fr : List Str) (ds : List (Option Dat)) : Prop where
  len : ds.length = fr.length
  all : ∀ y c, (cloFrom cl l.scope.names []).lookup y = some c → ∃ o u, cs.lookup c = some o ∧ o.data = .cell u
  inj : ∀ x y c, (cloFrom cl l.scope.names []).lookup x = some c → (cloFrom cl l.scope.names []).lookup y = some c → x = y
  has : ∀ (i : Nat) y, fr[i]? = some y → ∃ c, (cloFrom cl l.scope.names []).lookup y = some c ∧ ∀ d, ds[i]? = some (some d) → ∃ o u v, cs.lookup c = some o ∧ o.data = .cell (some u) ∧ RelV v u ∧ ow v d
theorem Capt.ws {cs : Cels} {ow : LL} {l : LamI} {cl : List (Str × Addr)} {fr : List Str} {ds : List (Option Dat)} (C : Capt cs ow l cl fr ds) : ∃ ws : List (Option V), ws.length = fr.length ∧ (∀ (i : Nat) d, ds[i]? = some (some d) → ∃ v, ws[i]? = some (some v) ∧ ow v d) ∧
    ∀ (i : Nat) y, fr[i]? = some y → ∃ c, (cloFrom cl l.scope.names []).lookup y = some c ∧ ∀ v, ws[i]? = some (some v) → ∃ o u, cs.lookup c = some o ∧ o.data = .cell (some u) ∧ RelV v u := by
  classical
  let P : Nat → V → Prop := fun i v => ∃ y c d o u, fr[i]? = some y ∧ (cloFrom cl l.scope.names []).lookup y = some c ∧ ds[i]? = some (some d) ∧ cs.lookup c = some o ∧ o.data = .cell (some u) ∧ RelV v u ∧ ow v d
  refine ⟨(List.range fr.length).map fun i => if h : ∃ v, P i v then some h.choose else none, by rw [List.length_map, List.length_range], fun i d e => ?_, fun i y e => ?_⟩
  · have hi : i < fr.length := by rw [← C.len]; exact (List.getElem?_eq_some_iff.mp e).1
    obtain ⟨c, hc, hd⟩ := C.has i fr[i] (List.getElem?_eq_getElem hi)
    obtain ⟨o, u, v, h1, h2, h3, h4⟩ := hd d e
    have hP : ∃ v, P i v := ⟨v, fr[i], c, d, o, u, List.getElem?_eq_getElem hi, hc, e, h1, h2, h3, h4⟩
    refine ⟨hP.choose, ?_, ?_⟩
    · rw [List.getElem?_map, List.getElem?_range hi, Option.map_some, dif_pos hP]
    · obtain ⟨y, c, d', o, u, _, _, q, _, _, _, r⟩ := hP.choose_spec
      rw [e] at q
      injection q with q
      injection q with q
      subst q
      exact r
  · obtain ⟨c, hc, hd⟩ := C.has i y e
    have hi : i < fr.length := (List.getElem?_eq_some_iff.mp e).1
    refine ⟨c, hc, fun v q => ?_⟩
    rw [List.getElem?_map, List.getElem?_range hi, Option.map_some] at q
    injection q with q
    by_cases hP : ∃ v, P i v
    · rw [dif_pos hP] at q
      injection q with q
      subst q
      obtain ⟨y', c', d', o, u, e1, e2, _, e3, e4, e5, _⟩ := hP.choose_spec
      rw [e] at e1
      injection e1 with e1
      subst e1
      rw [hc] at e2
      injection e2 with e2
      subst e2
      exact ⟨o, u, e3, e4, e5⟩
    · rw [dif_neg hP] at q
      cases q
/-- a reading of what a lambda computes, its captured data put in -/
abbrev UB := Store → KE → KX → Prop
/-- x(), x at the slot i -/
def uAct (B : LamI → List (Str × Addr) → Option UB) (i : Nat) : UE := fun dl S K X => match dl[i]? with
  | some (some (.fn l cl)) => ∃ b, B l cl = some b ∧ b S K X
  | _ => False
end DL
/-! DY4: the rule for x(), x a lambda that a def got. -/
namespace DL
open PySem PySem.Spec L2 PyProof.Rows NdefX
section
variable {P : Program} {w : World} {K : PySem.W.Frag} {mg : Str → Option Value} {base : Heap} {cs : Cels} {H : Hp} {s : Shared} {A : Around} {outer : List Env}
theorem Env0.strip (e0 : Env0 P w K mg base A outer s H) (hc : ∀ a o, cs.lookup a = some o → H a = some (CelO a o)) : Env0 P w K mg base A outer s (strip cs H) := by
  have sn : ∀ {b}, H b = none → DL.strip cs H b = none := fun {b} n => by
    cases q : cs.lookup b with
    | some o => exact strip_in q
    | none => rw [strip_out q]; exact n
  exact ⟨e0.frames, e0.mod, fun b o e => ⟨(e0.bs b o e).1, sn (e0.bs b o e).2⟩, e0.bsz, e0.funs, fun b hb => sn (e0.frf b hb), HOk.strip e0.hok hc, e0.bare⟩
end
/-- what the table of readings is asked: each is the reading of a lambda's text -/
def TabOk (tb : List (Addr × Str)) (cs : Cels) (ow : LL) (k : Nat) (P : Program) (w : World) (K : PySem.W.Frag) (mg : Str → Option Value) (base : Heap) (B : LamI → List (Str × Addr) → Option UB) : Prop :=
  ∀ l cl b, B l cl = some b → ∃ N fr ds u, LamK l N fr ∧ Capt cs ow l cl fr ds ∧ b = (fun S K X => u (startL l N ds) S K X) ∧
    ∀ (A : Around) (outer : List Env) (s : Shared) (H : Hp) (E : XK) (f c : Addr), Room k (A.deeper (envF (nfOf l cl c) f s.heap.objs.size)) →
      ∃ t, @DE (bas tb) (ncx (L2.CX P w) P w K mg base N (nfOf l cl c) f A outer s H E) (WE0 E) l.body t u
end DL
/-! DY5: a def is called with lambdas. -/
namespace DL
open PySem PySem.Spec L2 PyProof.Rows NdefX
def slotD (dl : Env') (j : Nat) : Option Dat := match dl[j]? with
  | some o => o
  | none => none
/-- the cells of a running frame, as they stand -/
def cellsNow (N : List Str) (cells : List (Str × Addr)) (h : Heap) : Cels := N.filterMap fun y => match cells.lookup y with
  | none => none
  | some c => (h.get? c).map fun o => (c, o)
/-- the lambdas of a def's frame: how their names lie to its slots; their readings -/
structure FrameTab (tb : List (Addr × Str)) (k : Nat) (X : Cx) (Bt : Env' → LamI → List (Str × Addr) → Option UB) : Prop where
  ok : ∀ dl l cl b, Bt dl l cl = some b → cl = X.env.cells ∧ ∃ (N fr : List Str) (js : List Nat) (u : UE), LamK l N fr ∧ js.map (fun j => X.N[j]?) = fr.map some ∧ (∀ y ∈ fr, (y, NameKind.free) ∈ l.scope.names) ∧ (∀ y ∈ l.scope.names, y.2 = .free → X.env.scope.names.lookup y.1 = some .cell ∨ X.env.scope.names.lookup y.1 = some .free) ∧
    b = (fun S K Xk => u (startL l N (js.map (slotD dl))) S K Xk) ∧ ∀ (A : Around) (outer : List Env) (s : Shared) (H : Hp) (E : XK) (f c : Addr), Room k (A.deeper (envF (nfOf l cl c) f s.heap.objs.size)) →
      ∃ t, @DE (bas tb) (ncx (L2.CX X.prog X.w) X.prog X.w X.K X.mg X.base N (nfOf l cl c) f A outer s H E) (WE0 E) l.body t u
section
variable {X : Cx} {pins : List (Addr × Obj)} {sg : L2.St} {H : Hp} {s : Shared} {dl : Env'} {L : LL} {tb : List (Addr × Str)} {k : Nat} {Bt : Env' → LamI → List (Str × Addr) → Option UB}
end
/-- g(..) with lambdas of this frame in what it gets: G is g's promise, given the lambdas' readings -/
def uGive (G : (LamI → List (Str × Addr) → Option UB) → Spec) (Bt : Env' → LamI → List (Str × Addr) → Option UB) (ua : UA) : UE := fun dl S K X => ua dl S (fun ds S1 => G (Bt dl) ds S1 K fun _ _ => False) X
end DL
/-! DY6: try: .. except (A, B, C) as e: .. -/
namespace DL
open PySem PySem.Spec L2 PyProof.Rows
/-- what the clause wishes of an error of the body: it is one of these classes; slot i is its name's -/
def w3 (K : PySem.W.Frag) (cs : List Value) (i : Nat) (ts : Addr → Value → Option Addr → TS) (D : Ends) : WX := fun cls d sg H =>
  PySem.W.exmAny K cls cs = some true ∧ ∀ a, H a = none → ts a cls d { nx := fun sg' H' => D.nx (sg'.set i none) H', rt := D.rt, bk := fun sg' H' => D.bk (sg'.set i none) H', ct := fun sg' H' => D.ct (sg'.set i none) H' } (sg.set i (some (.ref a))) H
section
variable {X : Cx} {x1 x2 x3 n : Str} {c1 c2 c3 : Value} {i : Nat} {body suite : List Stmt} {b₀ : Stmt} {q1 q2 q3 qt pos pos' : Pos} {k0 : Nat} {tb : WX → TS} {ts : Addr → Value → Option Addr → TS}
end
end DL
/-! DY7: try over data; an error's fields; a def called in an except suite. -/
namespace DL
open PySem PySem.Spec L2 PyProof.Rows
def tOfS [Tabl] (W : WX) (u : US) : TS := fun D' sg H => ∃ dl L S T D, EnvIn sg dl L ∧ SR H L S T ∧ u D dl S ∧ SOk sg.length W L T D D'
abbrev WFF : WX := fun _ _ _ _ => False
/-- mt: the classes that the clause names; us a d C: the suite's reading, the error at a with its fields at d -/
def uTry (mt : Addr → Prop) (ub : US) (us : Addr → Addr → Addr → US) (i : Nat) : US := fun D dl S => ub { D with ex := fun e dl1 S1 => mt e.C ∧ ∀ a d, us a d e.C { nx := fun dl2 S2 => D.nx (dl2.set i none) S2, rt := D.rt, bk := fun dl2 S2 => D.bk (dl2.set i none) S2, ct := fun dl2 S2 => D.ct (dl2.set i none) S2 } (dl1.set i (some (.exv a d e.ns e.xs))) S1 } dl S
theorem SR.exv [Tabl] {H : Hp} {L : LL} {S : Store} {T : List (Addr × HO)} {a d : Addr} {ns : List Str} {xs : List Dat} (s : SR H L S T) (h : L (.ref d) (.xd ns xs)) : SR H (Ladd L (.ref a) (.exv a d ns xs)) S T := by
  obtain ⟨rho, x⟩ := s
  refine ⟨rho, x.more fun v c q => ?_⟩
  rcases q with q | ⟨rfl, rfl⟩
  · exact .inl q
  · have k := x.rd _ _ h
    simp only [RD] at k ⊢
    obtain ⟨b, vs, e, h1, h2, h3, h4⟩ := k
    injection e with e
    subst e
    exact .inr ⟨True.intro, vs, h1, h2, h3, h4⟩
section
variable {X : Cx} {W : WX} {x1 x2 x3 n : Str} {c1 c2 c3 : Value} {i : Nat} {body suite : List Stmt} {b₀ : Stmt} {q1 q2 q3 qt pos pos' : Pos} {k0 : Nat} {ub : US} {us : Addr → Addr → Addr → US} {mt : Addr → Prop}
end
/-! ### an error's field -/
def uXf (a d : Addr) (f : Str) (ua : UE) : UE := fun dl S K X => ua dl S (fun v S1 => match v with
  | .exv a' d' ns xs => a' = a ∧ d' = d ∧ ∃ y, (ns.zip xs).lookup f = some y ∧ K y S1
  | _ => False) X
/-! ### a def called in an except suite -/
section
variable {P : Program} {w : World} {K : PySem.W.Frag} {mg : Str → Option Value} {base : Heap} {x qual : Str} {params : Arguments} {body : List Stmt} {scope : Scope} {f : Addr} {fd : FuncData} {N ps : List Str} {k : Nat}
end
def uHot (N : List Str) (u : US) (ua : UA) : UE := fun dl S K X => ua dl S (fun ds S1 => ds.length = 1 ∧ (belows S1.length ds → belows S1.length S1 → u (endsOf S1 K fun _ _ => False) (startD N ds) S1)) X
end DL
/-! DY8: the laws' _law_field, _law_got, _law_all_got: readings, promises. -/
namespace DL
open PySem L2
def cs1 : List Str := ["InvalidAlphabet", "InvalidWord", "InvalidLetter", "InvalidState", "InvalidPrime", "InvalidSet"]
def cs2 : List Str := ["InvalidName", "InvalidLimit"]
def cs3 : List Str := ["InvalidRows", "InvalidLine"]
def cs4 : List Str := ["InvalidText", "InvalidPage"]
def cs5 : List Str := ["WrongKind", "UnknownName"]
/-- an error's fields, as the laws tell them -/
def fieldD (co : Str) (fs : List (Str × Dat)) : Option Dat :=
  if anyStr co (cs1.map Dat.str) = true then (fs.lookup ("given" : Str)).map fun x => .tup [x]
  else if anyStr co (cs2.map Dat.str) = true then (fs.lookup ("given" : Str)).map fun x => .tup [x]
  else if anyStr co (cs3.map Dat.str) = true then (fs.lookup ("at" : Str)).map fun x => .tup [x]
  else if anyStr co (cs4.map Dat.str) = true then (fs.lookup ("row" : Str)).map fun x => .tup [x]
  else if anyStr co (cs5.map Dat.str) = true then (fs.lookup ("name" : Str)).map fun x => .tup [x]
  else if co == ("TooMany" : Str) then (match fs.lookup ("subject" : Str), fs.lookup ("most" : Str) with
    | some x, some y => some (.tup [x, y])
    | _, _ => none)
  else some (.tup [])
def uCodeIn (a d : Addr) (ys : List Str) : UT := uTest (uOp (gIn id) (uXf a d "code" (uVar 0)) (uTup (ys.foldr (fun y u => uCons (uC (.str y)) u) uNil)))
def uF1 (a d : Addr) (f : Str) : US := uRet (uTup (uCons (uXf a d f (uVar 0)) uNil))
/-- _law_field's reading -/
def u_law_field (a d : Addr) : US :=
  uSeq (uIfS (uCodeIn a d cs1) (uF1 a d "given") uNext)
  (uSeq (uIfS (uCodeIn a d cs2) (uF1 a d "given") uNext)
  (uSeq (uIfS (uCodeIn a d cs3) (uF1 a d "at") uNext)
  (uSeq (uIfS (uCodeIn a d cs4) (uF1 a d "row") uNext)
  (uSeq (uIfS (uCodeIn a d cs5) (uF1 a d "name") uNext)
  (uRet (uIf (uTest (uOp gEq (uXf a d "code" (uVar 0)) (uC (.str "TooMany")))) (uTup (uCons (uXf a d "subject" (uVar 0)) (uCons (uXf a d "most" (uVar 0)) uNil))) (uTup uNil)))))))
section
variable {a d : Addr} {ns : List Str} {xs : List Dat} {co : Str} {dl : Env'} {S : Store} {D : DEnds}
end
/-- _law_got's reading: B the lambdas', mt the errors that it catches -/
def u_law_got (B : LamI → List (Str × Addr) → Option UB) (mt : Addr → Prop) : US :=
  uSeq (uSet 1 (uTup (uCons (uC (.str "")) (uCons (uC .non) uNil))))
  (uSeq (uTry mt (uSet 1 (uTup (uCons (uC (.str "")) (uCons (uAct B 0) uNil))))
      (fun a d _ => uSet 1 (uTup (uCons (uXf a d "code" (uVar 2)) (uCons (uHot ["_law_e"] (u_law_field a d) (uCons (uVar 2) uNil)) uNil)))) 2)
  (uRet (uVar 1)))
/-- what becomes of an error -/
def gotE (mt : Addr → Prop) (e : Exc) (S : Store) (K : Dat → Store → Prop) : Prop := mt e.C ∧ ∃ co fd, (e.ns.zip e.xs).lookup ("code" : Str) = some (.str co) ∧ fieldD co (e.ns.zip e.xs) = some fd ∧ (belows S.length e.xs → below S.length fd) ∧ K (.tup [.str co, fd]) S
def uGotSuite (a d : Addr) : US := uSet 1 (uTup (uCons (uXf a d "code" (uVar 2)) (uCons (uHot ["_law_e"] (u_law_field a d) (uCons (uVar 2) uNil)) uNil)))
/-- how _law_got goes on behind what it called -/
def kGot (S : Store) (K : KE) : KE := fun d S1 => 2 ≤ sizeLine ∧ 1 < 3 ∧ ExitTo S K (.tup [.str "", d]) S1
def xGot (mt : Addr → Prop) (S : Store) (K : KE) (X : KX) (l : LamI) (cl : List (Str × Addr)) : KX := fun e S1 => mt e.C ∧ ∀ a d, uGotSuite a d { nx := fun dl2 S2 => uRet (uVar 1) (endsOf S K X) (dl2.set 2 none) S2, rt := ExitTo S K, bk := fun _ _ => False, ct := fun _ _ => False } [some (.fn l cl), some (.tup [.str "", .non]), some (.exv a d e.ns e.xs)] S1
def sp_law_got (B : LamI → List (Str × Addr) → Option UB) (mt : Addr → Prop) : Spec := fun ds S K X => ∃ l cl b, ds = [.fn l cl] ∧ B l cl = some b ∧ b S (kGot S K) (xGot mt S K X l cl)
/-! _law_all_got -/
def gotAll (B : LamI → List (Str × Addr) → Option UB) (mt : Addr → Prop) : List Dat → List Dat → Store → (List Dat → Store → Prop) → Prop
  | [], acc, S, G => G acc S
  | d :: r, acc, S, G => sp_law_got B mt [d] S (fun y S2 => gotAll B mt r (acc ++ [y]) S2 G) XF0
def u_law_all_got (B : LamI → List (Str × Addr) → Option UB) (mt : Addr → Prop) : US := uRet (uLc (uSeqI (uVar 0)) [1] (uName 1) uYes (uCall (sp_law_got B mt) [] (uCons (uVar 1) uNil)))
def sp_law_all_got (B : LamI → List (Str × Addr) → Option UB) (mt : Addr → Prop) : Spec := fun ds S K _ => ∃ fs, ds = [.lst fs] ∧ fs.length ≤ sizeLine ∧ gotAll B mt fs [] S fun acc S2 => ExitTo S K (.lst acc) S2
end DL
/-! DY9: a def that makes lambdas keeps its promise: its reading speaks of its cells. -/
namespace DL
open PySem L2 PyProof.Rows
section
variable {P : Program} {w : World} {K : PySem.W.Frag} {mg : Str → Option Value} {base : Heap} {x qual : Str} {params : Arguments} {body : List Stmt} {scope : Scope} {dvs : List V} {kws : List (Str × V)} {f : Addr} {fd : FuncData} {N ps : List Str} {k : Nat}
end
end DL
/-! DY10: a lambda of the text, found by its path. -/
namespace DL
open PySem L2
def noE : Expr := .Constant .none 0 ⟨0, 0, 0, 0⟩
/-- the statements within; the ones of an else -/
def subB : Stmt → List Stmt
  | .FunctionDef _ _ b .. => b
  | .For _ _ b .. => b
  | .While _ b .. => b
  | .If _ b .. => b
  | .Try b .. => b
  | _ => []
def subO : Stmt → List Stmt
  | .For _ _ _ b _ => b
  | .While _ _ b _ => b
  | .If _ _ b _ => b
  | _ => []
/-- what a statement looks at first -/
def subE : Stmt → Expr
  | .Return (some e) _ => e
  | .Assign _ e _ => e
  | .Expr e _ => e
  | .If e _ _ _ => e
  | .While e _ _ _ => e
  | .For _ e _ _ _ => e
  | _ => noE
/-- the i-th part of an expression -/
def part : Expr → Nat → Expr
  | .BoolOp _ es _, i => es.getD i noE
  | .BinOp a _ b _, i => if i = 0 then a else b
  | .UnaryOp _ a _, _ => a
  | .IfExp a b c _, i => if i = 0 then a else if i = 1 then b else c
  | .Compare a _ es _, i => (a :: es).getD i noE
  | .Call f es _ _, i => (f :: es).getD i noE
  | .Attribute a _ _, _ => a
  | .Subscript a b _, i => if i = 0 then a else b
  | .Starred a _, _ => a
  | .List es _, i => es.getD i noE
  | .Tuple es _ _, i => es.getD i noE
  | _, _ => noE
def lamA : Expr → Arguments
  | .Lambda a .. => a
  | _ => ⟨[], [], none, [], [], none, []⟩
def lamE : Expr → Expr
  | .Lambda _ e _ _ => e
  | _ => noE
def lamS : Expr → Scope
  | .Lambda _ _ s _ => s
  | _ => { kind := .function, names := [], isGenerator := false, isCoroutine := false }
def stAt (b : List Stmt) (i : Nat) : Stmt := b.getD i (.Pass ⟨0, 0, 0, 0⟩)
def lamOf (id : Nat) (q : Str) (par : Option Str) (e : Expr) : LamI := ⟨id, q, lamA e, lamE e, lamS e, par⟩
open Classical in
/-- a table of lambdas, one behind the other -/
noncomputable def lamTab (cl : List (Str × Addr)) : List (LamI × UB) → LamI → List (Str × Addr) → Option UB
  | [], _, _ => none
  | (l, b) :: r, l', cl' => if l' = l ∧ cl' = cl then some b else lamTab cl r l' cl'
open Classical in
open Classical in
open Classical in
/-- a lambda of a def: its names, the captured ones, where they stand in the def, its body's reading -/
structure LamRow where
  l : LamI
  N : List Str
  fr : List Str
  js : List Nat
  u : UE
def LamRow.ub (r : LamRow) (dl : Env') : UB := fun S K X => r.u (startL r.l r.N (r.js.map (slotD dl))) S K X
noncomputable def rowsTab (cl : List (Str × Addr)) (rows : List LamRow) (dl : Env') : LamI → List (Str × Addr) → Option UB := lamTab cl (rows.map fun r => (r.l, r.ub dl))
/-- what is asked of a row in the def's frame X -/
structure RowOk (tb : List (Addr × Str)) (k : Nat) (X : Cx) (r : LamRow) : Prop where
  lk : LamK r.l r.N r.fr
  js : r.js.map (fun j => X.N[j]?) = r.fr.map some
  fr : ∀ y ∈ r.fr, (y, NameKind.free) ∈ r.l.scope.names
  free : ∀ y ∈ r.l.scope.names, y.2 = .free → X.env.scope.names.lookup y.1 = some .cell ∨ X.env.scope.names.lookup y.1 = some .free
  body : ∀ (A : Around) (outer : List Env) (s : Shared) (H : Hp) (E : XK) (f c : Addr), Room k (A.deeper (NdefX.envF (nfOf r.l X.env.cells c) f s.heap.objs.size)) →
      ∃ t, @DE (bas tb) (NdefX.ncx (L2.CX X.prog X.w) X.prog X.w X.K X.mg X.base r.N (nfOf r.l X.env.cells c) f A outer s H E) (WE0 E) r.l.body t r.u
end DL
/-! DY11: x in y, y an instance with its own __contains__. -/
namespace DL
open PySem PySem.Spec L2 PyProof.Rows
def rOf [Tabl] (g : G2) : R2 := fun x y H Q => ∃ dx dy L S T K, SR H L S T ∧ L x dx ∧ L y dy ∧ g dx dy S K ∧ EOk L T K Q
def gInO (MS : List (Addr × Spec)) (f : Bool → Bool) : G2 := fun x y S K => ∃ C ns xs F, insD S y = some (C, ns, xs) ∧ (C, F) ∈ MS ∧ F [y, x] S (fun d S1 => match d with
  | .bl b => K (.bl (f b)) S1
  | _ => False) fun _ _ => False
end DL
/-! DY12: making and calling with keywords. -/
namespace DL
open PySem PySem.Spec L2 PyProof.Rows
/-- C(.., k = v): n written values, m keywords; gD: how they lie -/
def uMakeK (C : Addr) (F : Spec) (n m : Nat) (gD : List Dat → List Dat → List Dat) (ua uk : UA) : UE := fun dl S K X => ua dl S (fun ds S1 => uk dl S1 (fun es S2 => ds.length = n ∧ es.length = m ∧ F (gD (.cell S2.length :: ds) es) (S2 ++ [.ins C [] []]) (fun d S3 => d = .non ∧ ExitTo S2 K (.cell S2.length) S3) (fun e S3 => ExitX S2 X e [] S3)) X) X
/-- how values lie: the written ones, constants, the keywords' -/
def gAp (dd : List Dat) (ds es : List Dat) : List Dat := ds ++ (dd ++ es)
def gApV (dv : List V) (ds es : List V) : List V := ds ++ (dv ++ es)
section
variable {X : Cx} {W : WX} {k j n : Nat} {x : Str} {ps ks : List Str} {e : Expr} {es : List Expr} {kws : List Keyword} {t tk' : TA} {u uk : UA} {pos p : Pos} {gV : List V → List V → List V} {gD : List Dat → List Dat → List Dat} {C : Addr} {F : Spec}
end
section
variable {dl : Env'} {S : Store} {K : KE} {X : KX} {C : Addr} {F : Spec} {n m : Nat} {gD : List Dat → List Dat → List Dat} {ua uk : UA}
theorem x_makeK (h : ua dl S (fun ds S1 => uk dl S1 (fun es S2 => ds.length = n ∧ es.length = m ∧ F (gD (.cell S2.length :: ds) es) (S2 ++ [.ins C [] []]) (fun d S3 => d = .non ∧ ExitTo S2 K (.cell S2.length) S3) (fun e S3 => ExitX S2 X e [] S3)) X) X) : uMakeK C F n m gD ua uk dl S K X := h
end
end DL
/-! DY13: further methods of lists. -/
namespace DL
open PySem L2
def gClear : GM := fun d ds S K => match d, ds with
  | .cell n, [] => ∃ xs, S[n]? = some (.lst xs) ∧ K .non (S.set n (.lst []))
  | _, _ => False
/-- the errors that a law's helper catches -/
def mtC (errs : List Str) (K : PySem.W.Frag) : Addr → Prop := fun C => ∃ x ∈ errs, C = He.ga K x
end DL
namespace DL
open PySem PySem.Spec L2 DX
section
variable {P : Program} {w : World} {K : PySem.W.Frag} {mg : Str → Option Value} {base : Heap} {CX : CXT} {k : Nat} {f C : Addr} {fd : FuncData} {ps : List Str} {sp sp' : Sp} {nf : List (Str × Fs)} {n : Nat} {c1 c2 : List V → Prop}
theorem FnOk.imp (F : FnOk P w K mg base CX k f fd ps sp) (h : ∀ vs H Q E, sp' vs H Q E → sp vs H Q E) : FnOk P w K mg base CX k f fd ps sp' :=
  ⟨fun vs H Q E q => F.len _ _ _ _ (h _ _ _ _ q), fun A outer s H args us vs Q E hr e0 hb r q => F.run A outer s H args us vs Q E hr e0 hb r (h _ _ _ _ q)⟩
theorem FnOk.ini (F : FnOk P w K mg base CX k f fd ps (spIni C nf n c1)) (h : ∀ ws, c2 ws → c1 ws) : FnOk P w K mg base CX k f fd ps (spIni C nf n c2) :=
  F.imp fun vs H Q E ⟨a, ws, ys, e, l, hc, r⟩ => ⟨a, ws, ys, e, l, h _ hc, r⟩
end
theorem one_free {ns : List (Str × NameKind)} {z : Str} (h : (ns.all fun y => !decide (y.2 = .free) || decide (y.1 = z)) = true) {y : Str} (e : ns.lookup y = some .free) : y = z := by
  have := List.all_eq_true.mp h (y, .free) (PySem.mem_of_lookup e)
  simpa using this
end DL
/-! DY14: steps: errors that leave a def. -/
namespace DL
open PySem L2 DX
theorem exitX_here {S0 : Store} {X : KX} {e : Exc} {dl : Env'} (hb : belows S0.length e.xs) (k : X e S0) : ExitX S0 X e dl S0 := ⟨S0, e.xs, ⟨⟨[], by simp⟩, Nat.le_refl _, .inl rfl⟩, .same (by simp only [below]; exact hb), k⟩
theorem exitX_pure {S0 R : Store} {X : KX} {e : Exc} {dl : Env'} (hb : belows S0.length e.xs) (k : X e S0) : ExitX S0 X e dl (S0 ++ R) := ⟨S0, e.xs, ⟨⟨R, rfl⟩, Nat.le_refl _, .inl rfl⟩, .same (by simp only [below]; exact hb), k⟩
section
variable {dl : Env'} {S : Store} {D : DEnds} {C : Addr} {c f g : Str} {y z : Dat} {KX' : KX}
/-- raise C(y): its code, its field -/
theorem x_rz1 (h : D.ex ⟨C, ["code", f], [.str c, y]⟩ dl S) : ([y] : List Dat).length = 1 ∧ condD false [y] ∧ ∃ xs, FD [y] (([("code", .c c), (f, .a 0)] : List (Str × Fs)).map (·.2)) xs ∧ D.ex ⟨C, ([("code", .c c), (f, .a 0)] : List (Str × Fs)).map (·.1), xs⟩ dl S :=
  ⟨rfl, (fun h => by cases h), [.str c, y], ⟨rfl, rfl, True.intro⟩, h⟩
theorem x_rz0 (h : D.ex ⟨C, ["code"], [.str c]⟩ dl S) : ([] : List Dat).length = 0 ∧ condD false [] ∧ ∃ xs, FD [] (([("code", .c c)] : List (Str × Fs)).map (·.2)) xs ∧ D.ex ⟨C, ([("code", .c c)] : List (Str × Fs)).map (·.1), xs⟩ dl S :=
  ⟨rfl, (fun h => by cases h), [.str c], ⟨rfl, True.intro⟩, h⟩
theorem x_rz2 {s : Str} (hs : s.length ≤ 1000) (h : D.ex ⟨C, ["code", g, f], [.str c, z, .str s]⟩ dl S) : ([.str s, z] : List Dat).length = 2 ∧ condD true [.str s, z] ∧ ∃ xs, FD [.str s, z] (([("code", .c c), (g, .a 1), (f, .a 0)] : List (Str × Fs)).map (·.2)) xs ∧ D.ex ⟨C, ([("code", .c c), (g, .a 1), (f, .a 0)] : List (Str × Fs)).map (·.1), xs⟩ dl S :=
  ⟨rfl, (fun _ => ⟨s, rfl, hs⟩), [.str c, z, .str s], ⟨rfl, rfl, rfl, True.intro⟩, h⟩
end
end DL
/-! DY15: a list times a number. -/
namespace DL
open PySem L2
def rep {α : Type} (n : Nat) (xs : List α) : List α := (List.replicate n xs).flatten
def gRep (g : List Dat → Store → KE → Prop) : G2 := fun x y S K => match y with
  | .int k => ∃ xs, lstD S x = some xs ∧ -(2 ^ 63) ≤ k ∧ k < 2 ^ 63 ∧ xs.length * k.toNat ≤ sizeLine ∧ g (rep k.toNat xs) S K
  | _ => False
abbrev kT : List Dat → Store → KE → Prop := fun xs S K => K (.lst xs) S
abbrev kC : List Dat → Store → KE → Prop := fun xs S K => K (.cell S.length) (S ++ [.lst xs])
section
variable {S : Store} {K : KE} {x : Dat} {xs : List Dat} {n : Nat}
end
end DL
namespace DL
open PySem L2
section
variable {dl : Env'} {S : Store} {K : KE} {X : KX} {G : (LamI → List (Str × Addr) → Option UB) → Spec} {Bt : Env' → LamI → List (Str × Addr) → Option UB} {ua : UA} {l : LamI} {cl : List (Str × Addr)}
theorem x_give (h : ua dl S (fun ds S1 => G (Bt dl) ds S1 K fun _ _ => False) X) : uGive G Bt ua dl S K X := h
theorem x_lam (h : K (.fn l cl) S) : uLam l cl dl S K X := h
end
end DL
/-! DY16: text.index(sign). -/
namespace DL
open PySem L2
def gSIndex : GM := fun d ds S K => match d, ds with
  | .str a, [.str b] => ∃ i rest, Builtin.Str.occurrences a b 0 a.length 1 = i :: rest ∧ K (.int ((i : Nat) : Int)) S
  | _, _ => False
theorem dmt_sindex [Tabl] {X : Cx} : DMt X "str.index" (fun x xs H Q => ∃ a b i rest, x = .str a ∧ xs = [.str b] ∧ Builtin.Str.occurrences a b 0 a.length 1 = i :: rest ∧ Q (.int (i : Nat)) H) gSIndex := ⟨mt_sindex, fun {x dx xs ds L H S T K Q} hs p ps h hq => by
  unfold gSIndex at h
  split at h
  · rename_i a b
    obtain ⟨i, rest, ho, h⟩ := h
    obtain ⟨v, rfl, pv⟩ := ps.one
    exact ⟨a, b, i, rest, hs.vstr p, by rw [hs.vstr pv], ho, hq.flat hs (d := .int _) rfl h⟩
  · exact h.elim⟩
theorem occ_idx {a : Str} {c : Nat} (h : c ∈ a.cps.toList) : ∃ rest, Builtin.Str.occurrences a (sgn c) 0 a.length 1 = a.cps.toList.idxOf c :: rest := by
  have hl := List.idxOf_lt_length_iff.mpr h
  have hat : a.cps.toList[a.cps.toList.idxOf c]? = some c := by rw [List.getElem?_eq_getElem hl]; simp
  rcases StrLaws.occ_head a (sgn c) 1 (Nat.le_refl _) with ⟨_, q⟩ | ⟨i, r, e, q, m⟩
  · exact (q _ ((StrLaws.subAt_one a c _).mpr hat)).elim
  · have hi := (StrLaws.subAt_one a c i).mp q
    have h1 : ¬ a.cps.toList.idxOf c < i := fun z => m _ z ((StrLaws.subAt_one a c _).mpr hat)
    have h2 : ¬ i < a.cps.toList.idxOf c := fun z => by
      have := List.not_of_lt_findIdx (p := fun x => x == c) z
      have hlt := (List.getElem?_eq_some_iff.mp hi).1
      have hv := (List.getElem?_eq_some_iff.mp hi).2
      simp [hv] at this
    have : i = a.cps.toList.idxOf c := by omega
    exact ⟨r, by rw [e, this]⟩
theorem x_sindex {S : Store} {K : KE} {a : Str} {c : Nat} (h : c ∈ a.cps.toList) (k : K (.int ((a.cps.toList.idxOf c : Nat) : Int)) S) : gSIndex (.str a) [.str (sgn c)] S K := by
  obtain ⟨rest, e⟩ := occ_idx h
  exact ⟨_, rest, e, k⟩
end DL
/-! DY17: len, repr, == of own classes; f-strings. -/
namespace DL
open PySem PySem.Spec L2 PyProof.Rows
section
variable {X : Cx} {k j : Nat} {f : Addr} {fd : FuncData} {ps : List Str} {sp : Sp}
end
def rOfL [Tabl] (g : GL) : List V → Hp → VK → Prop := fun vs H Q => ∃ ds L S T K, SR H L S T ∧ Ls L vs ds ∧ g ds S K ∧ EOk L T K Q
/-- len(x), x of an own class -/
def gLenO (MS : List (Addr × Spec)) : GL := fun ds S K => match ds with
  | [d] => ∃ C ns xs F, insD S d = some (C, ns, xs) ∧ (C, F) ∈ MS ∧ F [d] S (fun r S1 => ∃ n : Nat, r = .int (n : Int) ∧ n < 2 ^ 62 ∧ K (.int (n : Int)) S1) fun _ _ => False
  | _ => False
/-- repr(x), x of an own class -/
def gReprO (MS : List (Addr × Spec)) : GL := fun ds S K => match ds with
  | [d] => ∃ C ns xs F, insD S d = some (C, ns, xs) ∧ (C, F) ∈ MS ∧ F [d] S (fun r S1 => ∃ z : Str, r = .str z ∧ K (.str z) S1) fun _ _ => False
  | _ => False
section
variable {X : Cx} {MS : List (Addr × Spec)} {k j : Nat}
end
section
variable {dl : Env'} {S : Store} {K : KE} {X : KX} {MS : List (Addr × Spec)} {d : Dat} {C : Addr} {ns : List Str} {xs : List Dat} {F : Spec} {n : Nat} {z : Str}
end
/-! ### f-strings -/
def gFmt : G1 := fun d S K => match d with
  | .str y => y.length ≤ sizeLine ∧ K (.str y) S
  | .int i => i.natAbs.log2 < 1920 ∧ K (.str (toString i)) S
  | _ => False
/-- the parts of an f-string -/
inductive DJ [Tabl] (X : Cx) (W : WX) : List Expr → List TE → List UE → Prop where
  | nil : DJ X W [] [] []
  | cons {e : Expr} {t : TE} {u : UE} {es : List Expr} {ts : List TE} {us : List UE} (h : DE X W e t u) (r : DJ X W es ts us) : DJ X W (e :: es) (t :: ts) (u :: us)
def uJs : List UE → Str → Env' → Store → (Str → Store → Prop) → KX → Prop
  | [], acc, _, S, K, _ => K acc S
  | u :: us, acc, dl, S, K, X => u dl S (fun d S1 => ∃ y : Str, d = .str y ∧ (acc ++ y).length ≤ sizeLine ∧ uJs us (acc ++ y) dl S1 K X) X
def uJoin (us : List UE) : UE := fun dl S K X => uJs us Str.empty dl S (fun z S1 => K (.str z) S1) X
theorem DJ.imp [Tabl] {X : Cx} {W : WX} {es : List Expr} {ts : List TE} {us : List UE} (h : DJ X W es ts us) : ∀ {acc : Str} {sg dl L H S T K Q Xk}, EnvIn sg dl L → SR H L S T → uJs us acc dl S K Xk → (∀ z L' H' S', Lle L L' → SR H' L' S' T → K z S' → Q z H') → XOk W sg L T Xk → tJs ts acc sg H Q := by
  induction h with
  | nil => intro acc sg dl L H S T K Q Xk he hs hu hq hx; exact hq acc L H S (.refl L) hs hu
  | cons h _ ih =>
    intro acc sg dl L H S T K Q Xk he hs hu hq hx
    refine h.imp he hs hu (fun v d L1 H1 S1 l1 p1 s1 ⟨y, e, hy, k1⟩ => ?_) hx
    subst e
    exact ⟨y, s1.vstr p1, hy, ih (he.le l1) s1 k1 (fun z L' H' S' l s q => hq z L' H' S' (l1.trans l) s q) (hx.le l1)⟩
section
variable {dl : Env'} {S : Store} {K : KE} {Kz : Str → Store → Prop} {X : KX} {us : List UE} {u : UE} {acc y : Str} {i : Int}
theorem x_joined (h : uJs us Str.empty dl S (fun z S1 => K (.str z) S1) X) : uJoin us dl S K X := h
theorem x_jn (h : Kz acc S) : uJs [] acc dl S Kz X := h
theorem x_jc (h : u dl S (fun d S1 => ∃ y : Str, d = .str y ∧ (acc ++ y).length ≤ sizeLine ∧ uJs us (acc ++ y) dl S1 Kz X) X) : uJs (u :: us) acc dl S Kz X := h
end
end DL
/-! DY18: enumerate of a list, a tuple, a text; with a start. -/
namespace DL
open PySem PySem.Spec L2 PyProof.Rows
section
variable {prog : Program} {w : World} {A : Around} {E : Value → Shared → Prop} {s : Shared}
set_option maxHeartbeats 1000000 in
theorem meets_enum1 {v : Value} {o : Obj} {H : Heap → Prop} (B : Begins v o H) :
    Meets (Builtin.«enumerate.__new__» ⟨[.type "enumerate", v], []⟩) (fun _ R s => H s.heap ∧
      R (.ok (.ret (.ref (s.heap.push o).objs.size))) { s with heap := (s.heap.push o).push { cls := .type "enumerate", data := .fields #[.none, .bool false, .ref s.heap.objs.size, rawInt 0, .none, .none] } }) :=
  .of_wp fun prog w A R s h => by
    obtain ⟨hp, g, d, tk, os⟩ := s; obtain ⟨h1, h⟩ := h
    have hsub := sub_enumerate
    have q1 : ∀ {A' : Around} {E : Value → Shared → Prop} {Q : Value → Shared → Prop}, Q (.ref hp.objs.size) ⟨hp.push o, g, d, tk, os⟩ → wpAny (model prog w) A' (pyIter v) Q E ⟨hp, g, d, tk, os⟩ :=
      fun q => B.iter prog w _ _ ⟨hp, g, d, tk, os⟩ _ h1 q
    wp_walk using q1
    refine wpAny_stack_any fun st => wpAny_pure ?_
    split
    · rename_i c _ _ _ _ _
      cases (c == Value.type "enumerate")
      · wp_walk using q1
        exact ⟨_, rfl, h⟩
      · wp_walk using q1
        exact ⟨_, rfl, h⟩
    · wp_walk using q1
      exact ⟨_, rfl, h⟩
theorem enum_begins1 {v : Value} {o : Obj} {H : Heap → Prop} {Q : Value → Shared → Prop} (B : Begins v o H) (h1 : H s.heap)
    (h : ∀ h', IsEnum h' (s.heap.objs.size + 1) s.heap.objs.size 0 .none → h'.get? s.heap.objs.size = some o → h'.objs.size = s.heap.objs.size + 2 →
      (∀ b o, s.heap.get? b = some o → h'.get? b = some o) → Q (.ref (s.heap.objs.size + 1)) { s with heap := h' }) :
    wpAny (model prog w) A (call (.type "enumerate") [v]) Q E s := by
  refine callType_new F.called_enumerate (by decide) (F.typeCall_enumerate_1 _) (F.newCall_enumerate_1 _) (fun obj => F.args_object_init_2 obj _) F.entry_enumerate_new
    (meets_enum1 B) ⟨h1, ?_⟩
  have hz : (s.heap.push o).objs.size = s.heap.objs.size + 1 := Heap.size_push ..
  show _ ∧ _
  rw [hz]
  have he : IsEnum ((s.heap.push o).push { cls := .type "enumerate", data := .fields #[.none, .bool false, .ref s.heap.objs.size, rawInt 0, .none, .none] }) (s.heap.objs.size + 1) s.heap.objs.size 0 .none := by
    have := Heap.get?_push_size (s.heap.push o) (o := { cls := .type "enumerate", data := .fields #[.none, .bool false, .ref s.heap.objs.size, rawInt 0, .none, .none] }) rfl
    rw [hz] at this; exact this
  refine ⟨⟨_, he, rfl⟩, h _ he (Heap.get?_push_of_some _ (Heap.get?_push_size _ B.free)) (by rw [Heap.size_push, hz]) fun b o x => Heap.get?_push_of_some _ (Heap.get?_push_of_some _ x)⟩
end
/-- numbered items, drawn from one source -/
def ItE (K : PySem.W.Frag) (k0 : Int) (k : Sk) : It :=
  ⟨fun i H => ∃ (xs : List V) (x : V), k.vals K H xs ∧ xs[i]? = some x,
    fun i H v H' => ∃ T x, v = .ref T ∧ H T = none ∧ H' = upd H T (.tup [.int (k0 + (i : Int)), x]) ∧ ∀ xs, k.vals K H xs → xs[i]? = some x,
    fun i H => ∃ xs : List V, k.vals K H xs ∧ i = xs.length⟩
theorem turn_e {P : Program} {w : World} {K : PySem.W.Frag} {elts : List Expr} {kk : Nat} {tpos : Pos} (k0 : Int) {k : Sk} {e it : Addr} (hei : e ≠ it) (n1 : ∀ a ∈ k.src, a ≠ it) (n2 : ∀ a ∈ k.src, a ≠ e) :
    Turn P w K (.Tuple elts kk tpos) (ItE K k0 k) [e, it] e (fun i h => (∃ old, IsEnum h e it (k0 + (i : Int)) old) ∧ k.at_ it i h) where
  mem := by simp
  obj := fun i h st c hc => by
    obtain ⟨⟨old, he⟩, h1⟩ := st
    have e' : c = e ∨ c = it := by simpa using hc
    rcases e' with q | q
    · rw [q]; exact ⟨_, he, fun v q => nomatch q⟩
    · rw [q]; exact Sk.get? it i h h1
  keep := fun i h h' st k => by
    obtain ⟨⟨old, he⟩, h1⟩ := st
    exact ⟨⟨old, k e (by simp) _ he⟩, Sk.keep h1 fun o q => k it (by simp) o q⟩
  item := by
    intro X hP hw hK hc i pins s sg H E I hf st hg
    subst hP hw hK
    obtain ⟨⟨old, he⟩, h1⟩ := st
    obtain ⟨xs, x, hqx, hx⟩ := hg
    have hin : (X.A.in1).handled = none := I.ok.hd hc
    obtain ⟨P1, S1, D1, a1, b1, c1⟩ := k.draws (prog := X.prog) (w := X.w) (A := X.A.in1) hin I hqx it n1
    have lx : i < xs.length := (List.getElem?_eq_some_iff.mp hx).1
    have hef : e ∉ it :: k.src := fun m => by
      rcases List.mem_cons.mp m with q | q
      · exact hei q
      · exact n2 e q rfl
    refine (GoesN.enumFrom (elts := elts) (x1 := kk) (pos := tpos) k0 D1 e hei hef List.mem_cons_self).goes i s _ E lx ⟨⟨old, he⟩, a1 i h1⟩ fun v h' tk hY hSt hk _ => ?_
    obtain ⟨T, t, u, rfl, hT, p1, ht⟩ := hY
    obtain ⟨x', e1, r1⟩ := c1 i u p1
    rw [hx] at e1
    injection e1 with e1
    subst e1
    obtain ⟨he', s1'⟩ := hSt
    have new : ObjOk X.prog X.w (upd H T (.tup [.int (k0 + (i : Int)), x])) h' T (.tup [.int (k0 + (i : Int)), x]) := ⟨by show 2 ≤ sizeLine; decide, [.int (k0 + (i : Int)) t, u], .cons ⟨_, rfl⟩ (.cons r1 .nil), ht⟩
    have I1 : Inv X pins sg (upd H T (.tup [.int (k0 + (i : Int)), x])) { s with heap := h', toks := tk } :=
      I.turnedNew (t' := tk) (ch := [e, it]) (fun c o hb q => hk c o hb q) hf hT new
    refine ⟨.ref T, _, I1, rfl, ⟨T, x, rfl, I.hok.fresh hT, rfl, fun l hl => by rw [Sk.inj I hl hqx]; exact hx⟩, ⟨he', b1 _ _ s1'⟩, fun c hcm => ?_⟩
    have hlt : c < s.heap.objs.size := by
      have e' : c = e ∨ c = it := by simpa using hcm
      rcases e' with q | q
      · rw [q]; exact Heap.lt_size he
      · rw [q]; obtain ⟨_, e, _⟩ := Sk.get? it i _ h1; exact Heap.lt_size e
    rw [upd_ne (Nat.ne_of_lt (Nat.lt_of_lt_of_le hlt hT))]
    exact (hf c hcm).1
  done := by
    intro X hP hw hK hc i pins s sg H E I hf st hg
    subst hP hw hK
    obtain ⟨⟨old, he⟩, h1⟩ := st
    obtain ⟨xs, hqx, hl⟩ := hg
    have hin : (X.A.in1).handled = none := I.ok.hd hc
    obtain ⟨P1, S1, D1, a1, b1, c1⟩ := k.draws (prog := X.prog) (w := X.w) (A := X.A.in1) hin I hqx it n1
    have hef : e ∉ it :: k.src := fun m => by
      rcases List.mem_cons.mp m with q | q
      · exact hei q
      · exact n2 e q rfl
    subst hl
    refine (GoesN.enumFrom (elts := elts) (x1 := kk) (pos := tpos) k0 D1 e hei hef List.mem_cons_self).stops s (fun s' => Inv X pins sg H s') E ⟨⟨old, he⟩, a1 _ h1⟩ fun h' tk hk _ => ?_
    exact I.turnedL (t' := tk) (ch := [e, it]) (fun c o hb q => hk c o hb q) hf
  self := fun A i s Q E st h => by
    obtain ⟨⟨old, he⟩, _⟩ := st
    exact wpAny_pyIter_enum he h
def iE (K : PySem.W.Frag) (k0 : Int) (ta : TA) : TI := fun sg H R => ta sg H fun vs H1 => ∃ v1, vs = [v1] ∧ ∀ u1, RelV v1 u1 → ∃ k1 xs, Sk.val k1 = u1 ∧ k1.vals K H1 xs ∧ R (ItE K k0 k1) H1
theorem pi_e {X : Cx} {e : Expr} {ta : TA} {p pos tpos : Pos} {elts : List Expr} {kk : Nat} (hg : Gl X "enumerate") (hm : X.mg "enumerate" = none) (ha : PA X [e] ta) (hs : starEach [e] X.env = [(false, eval e X.env)] := by rfl) :
    PI X (.Tuple elts kk tpos) (.Call (.Name "enumerate" p) [e] [] pos) (iE X.K 0 ta) := by
  refine ⟨fun pins s sg H R I h => ?_⟩
  refine Call_ (ld_blt I hg hm boot_enumerate (PyProof.Rows.callWith_type1 (thn (ha.run pos pins s sg H _ I h) fun us s1 ⟨vs, H1, I1, r1, q1⟩ => ?_) hs rfl))
  obtain ⟨v1, ex, q1⟩ := q1
  subst ex
  cases r1 with
  | cons ru1 rr =>
    cases rr
    obtain ⟨k1, xs, ek, hx, q⟩ := q1 _ ru1
    subst ek
    obtain ⟨B1, b1, hb1, l1⟩ := k1.begins I1 hx
    refine enum_begins1 b1 hb1 fun h' he h1 hsz hk => wpAny_pyIter_enum he ?_
    have I2 : Inv X pins sg H1 { s1 with heap := h' } := I1.kept (t' := s1.toks) hk
    refine ⟨s1.heap.objs.size + 1, [s1.heap.objs.size + 1, s1.heap.objs.size], _, _, H1, rfl, I2,
      turn_e 0 (k := k1) (Nat.succ_ne_self _) (fun a ha => Nat.ne_of_lt (l1 a ha)) (fun a ha => Nat.ne_of_lt (Nat.lt_succ_of_lt (l1 a ha))), ⟨⟨.none, he⟩, Sk.fresh k1 h1⟩, fun c hcm => ?_, q⟩
    have e' : c = s1.heap.objs.size + 1 ∨ c = s1.heap.objs.size := by simpa using hcm
    have hle : s1.heap.objs.size ≤ c := by
      rcases e' with z | z
      · rw [z]; exact Nat.le_add_right _ _
      · rw [z]; exact Nat.le_refl _
    exact I1.fpOk hle (I1.hok.fresh hle)
def uEnK (k0 : Int) (ua : UA) : UI := fun dl S R X => ua dl S (fun ds S1 => match ds with
  | [a] => ∃ xs, drawD S1 a = some xs ∧ R (enumD k0 xs) (fun S => drawD S a = some xs) S1
  | _ => False) X
theorem enumD_atK {k0 : Int} : ∀ {xs : List Dat} {i : Nat}, (enumD k0 xs)[i]? = (xs[i]?).map fun x => .tup [.int (k0 + (i : Int)), x]
  | [], i => by simp [enumD]
  | x :: xs, 0 => by simp [enumD]
  | x :: xs, i + 1 => by
    simp only [enumD, List.getElem?_cons_succ]
    rw [enumD_atK (k0 := k0 + 1) (xs := xs) (i := i), show k0 + 1 + (i : Int) = k0 + ((i + 1 : Nat) : Int) by omega]
theorem enumD_lenK {k0 : Int} : ∀ {xs : List Dat}, (enumD k0 xs).length = xs.length
  | [] => rfl
  | x :: xs => by simp only [enumD, List.length_cons, enumD_lenK]
theorem itE_ok [Tabl] {KF : PySem.W.Frag} {k0 : Int} {a : Dat} {xs : List Dat} {k1 : Sk} {L1 : LL} (f1 : ∀ H2 L2 S2 T2, Lle L1 L2 → SR H2 L2 S2 T2 → drawD S2 a = some xs → ∃ vs L3, k1.vals KF H2 vs ∧ Lle L2 L3 ∧ Ls L3 vs xs ∧ SR H2 L3 S2 T2) :
    ItI (ItE KF k0 k1) (enumD k0 xs) L1 fun S => drawD S a = some xs :=
  ⟨fun i H2 L2 S2 T2 l2 s2 hP hi => by
    obtain ⟨vs, L3, h3, l3, p3, s3⟩ := f1 H2 L2 S2 T2 l2 s2 hP
    rw [enumD_lenK] at hi
    exact ⟨vs, vs[i]'(by rw [p3.length]; exact hi), h3, List.getElem?_eq_getElem _⟩,
  fun i H2 L2 S2 T2 x H3 d l2 s2 hP hd hy => by
    obtain ⟨vs, L3, h3, l3, p3, s3⟩ := f1 H2 L2 S2 T2 l2 s2 hP
    obtain ⟨A, x1, rfl, hA, rfl, hx1⟩ := hy
    obtain ⟨c, ec, pc⟩ := p3.getV (hx1 vs h3)
    rw [enumD_atK, ec] at hd
    injection hd with hd
    subst hd
    have s4 := s3.flat (d := .int (k0 + (i : Int))) (v := .int (k0 + (i : Int))) rfl
    exact ⟨Ladd (Ladd L3 _ _) _ _, (l3.trans Ladd.le).trans Ladd.le, Ladd.here, s4.tup hA ⟨Ladd.here, Ladd.le _ _ pc, True.intro⟩⟩,
  fun i H2 L2 S2 T2 l2 s2 hP hi => by
    obtain ⟨vs, L3, h3, l3, p3, s3⟩ := f1 H2 L2 S2 T2 l2 s2 hP
    exact ⟨vs, h3, by rw [hi, p3.length, enumD_lenK]⟩⟩
section
variable {X : Cx} {W : WX} {e : Expr} {ta : TA} {ua : UA} {p pos tpos : Pos} {elts : List Expr} {kk : Nat}
theorem di_enumS [Tabl] (hm : X.mg "enumerate" = none) (ha : DA X W [e] ta ua) (hg : Gl X "enumerate" := by rfl) (hs : starEach [e] X.env = [(false, eval e X.env)] := by rfl) :
    DI X W (.Tuple elts kk tpos) (.Call (.Name "enumerate" p) [e] [] pos) (iE X.K 0 ta) (uEnK 0 ua) := ⟨pi_e hg hm ha.run hs, fun {sg dl L H S T R X' Q} he hs h hq hx =>
  ha.imp he hs h (fun vs ds L1 H1 S1 l1 p1 s1 h1 => by
    match ds, p1, h1 with
    | [a], p1, h1 =>
      obtain ⟨xs, ea, h1⟩ := h1
      obtain ⟨v, rfl, pv⟩ := p1.one
      refine ⟨v, rfl, fun u1 r1 => ?_⟩
      obtain ⟨k1, e1, f1⟩ := sk_of (KF := X.K) s1 pv ea r1
      obtain ⟨xv, _, hxv, _⟩ := f1 H1 L1 S1 T (.refl _) s1 ea
      exact ⟨k1, xv, e1, hxv, hq _ (enumD 0 xs) (fun S => drawD S a = some xs) L1 H1 S1 l1 s1 (itE_ok f1) h1⟩
    | [], _, h1 => exact h1.elim
    | _ :: _ :: _, _, h1 => exact h1.elim) hx⟩
theorem x_enK {k0 : Int} {dl : Env'} {S : Store} {R : List Dat → (Store → Prop) → Store → Prop} {Xk : KX} (h : ua dl S (fun ds S1 => match ds with
  | [a] => ∃ xs, drawD S1 a = some xs ∧ R (enumD k0 xs) (fun S => drawD S a = some xs) S1
  | _ => False) Xk) : uEnK k0 ua dl S R Xk := h
end
end DL
/-! DY19: dicts with ints and texts as keys. -/
namespace DL
open PySem PySem.Spec L2 PyProof.Rows
def keyD : Key → Dat
  | .inl i => .int i
  | .inr z => .str z
def kOf : Dat → Option Key
  | .int i => some (.inl i)
  | .str z => some (.inr z)
  | _ => none
def valD (ps : List (Key × Dat)) (k : Key) : Option Dat := (ps.find? fun p => decide (p.1 = k)).map (·.2)
def putD (ps : List (Key × Dat)) (k : Key) (d : Dat) : List (Key × Dat) :=
  if (ps.any fun p => decide (p.1 = k)) = true then ps.map (fun p => if p.1 = k then (p.1, d) else p) else ps ++ [(k, d)]
def mergeD (ps more : List (Key × Dat)) : List (Key × Dat) := more.foldl (fun acc p => putD acc p.1 p.2) ps
def dctD (ps : List (Key × Dat)) : Dat := .dct (ps.map (·.1)) (ps.map (·.2))
def pairD (p : Key × Dat) : Dat := .tup [keyD p.1, p.2]
inductive PD (L : LL) : List (Key × V) → List (Key × Dat) → Prop where
  | nil : PD L [] []
  | cons (k : Key) {v : V} {d : Dat} {r : List (Key × V)} {q : List (Key × Dat)} (h : L v d) (t : PD L r q) : PD L ((k, v) :: r) ((k, d) :: q)
section
variable {L L' : LL} {kvs : List (Key × V)} {ps : List (Key × Dat)} {k : Key} {v : V} {d : Dat}
theorem PD.le (h : PD L kvs ps) (l : Lle L L') : PD L' kvs ps := by
  induction h with
  | nil => exact .nil
  | cons k h _ ih => exact .cons k (l _ _ h) ih
theorem PD.of : ∀ {ps : List (Key × Dat)} {vs : List V}, Ls L vs (ps.map (·.2)) → PD L ((ps.map (·.1)).zip vs) ps
  | [], [], _ => .nil
  | (k, d) :: ps, v :: vs, h => .cons k h.1 (PD.of h.2)
  | [], _ :: _, h => h.elim
  | _ :: _, [], h => h.elim
theorem PD.out (h : PD L kvs ps) : kvs = (ps.map (·.1)).zip (kvs.map (·.2)) ∧ Ls L (kvs.map (·.2)) (ps.map (·.2)) := by
  induction h with
  | nil => exact ⟨rfl, True.intro⟩
  | cons k h _ ih =>
    obtain ⟨e, l⟩ := ih
    refine ⟨?_, h, l⟩
    rw [List.map_cons, List.map_cons, List.zip_cons_cons, ← e]
theorem PD.len (h : PD L kvs ps) : kvs.length = ps.length := by
  induction h with
  | nil => rfl
  | cons k h _ ih => rw [List.length_cons, List.length_cons, ih]
theorem PD.keys (h : PD L kvs ps) : kvs.map (·.1) = ps.map (·.1) := by
  induction h with
  | nil => rfl
  | cons k h _ ih => rw [List.map_cons, List.map_cons, ih]
theorem PD.val (h : PD L kvs ps) (k : Key) : (valV kvs k = none ∧ valD ps k = none) ∨ ∃ v d, valV kvs k = some v ∧ valD ps k = some d ∧ L v d := by
  induction h with
  | nil => exact .inl ⟨rfl, rfl⟩
  | cons j h _ ih =>
    by_cases e : j = k
    · exact .inr ⟨_, _, by simp [valV, List.find?_cons, e], by simp [valD, List.find?_cons, e], h⟩
    · rcases ih with ⟨a, b⟩ | ⟨v, d, a, b, c⟩
      · exact .inl ⟨by rw [valV_neg (by exact e)]; exact a, by simp only [valD, List.find?_cons, decide_eq_false e]; exact b⟩
      · exact .inr ⟨v, d, by rw [valV_neg (by exact e)]; exact a, by simp only [valD, List.find?_cons, decide_eq_false e]; exact b, c⟩
theorem PD.any (h : PD L kvs ps) (k : Key) : (kvs.any fun p => decide (p.1 = k)) = ps.any fun p => decide (p.1 = k) := by
  induction h with
  | nil => rfl
  | cons j h _ ih => rw [List.any_cons, List.any_cons, ih]
theorem PD.snoc (h : PD L kvs ps) (hv : L v d) : PD L (kvs ++ [(k, v)]) (ps ++ [(k, d)]) := by
  induction h with
  | nil => exact .cons k hv .nil
  | cons j h _ ih => exact .cons j h ih
theorem PD.repl (h : PD L kvs ps) (hv : L v d) : PD L (kvs.map fun p => if p.1 = k then (p.1, v) else p) (ps.map fun p => if p.1 = k then (p.1, d) else p) := by
  induction h with
  | nil => exact .nil
  | cons j h _ ih =>
    rw [List.map_cons, List.map_cons]
    by_cases e : j = k
    · rw [if_pos e, if_pos e]; exact .cons j hv ih
    · rw [if_neg e, if_neg e]; exact .cons j h ih
theorem PD.put (h : PD L kvs ps) (hv : L v d) : PD L (putK kvs k v) (putD ps k d) := by
  unfold putK putD
  rw [h.any k]
  split
  · exact h.repl hv
  · exact h.snoc hv
theorem PD.merge {more : List (Key × V)} {mo : List (Key × Dat)} (hm : PD L more mo) : ∀ {kvs : List (Key × V)} {ps : List (Key × Dat)}, PD L kvs ps → PD L (mergeK kvs more) (mergeD ps mo) := by
  induction hm with
  | nil => intro kvs ps h; exact h
  | cons k hv t ih => intro kvs ps h; exact ih (h.put hv)
end
theorem kOf_v [Tabl] {H : Hp} {L : LL} {S : Store} {T : List (Addr × HO)} (s : SR H L S T) {v : V} {d : Dat} {k : Key} (h : L v d) (e : kOf d = some k) : v = kV k := by
  cases d with
  | int i => cases e; exact s.vint h
  | str z => cases e; exact s.vstr h
  | _ => cases e
theorem kOf_key (k : Key) : kOf (keyD k) = some k := by cases k <;> rfl
/-- a dict's items -/
theorem SR.dctV [Tabl] {H : Hp} {L : LL} {S : Store} {T : List (Addr × HO)} (s : SR H L S T) {v : V} {d : Dat} {ps : List (Key × Dat)} (h : L v d) (hv : view S d = some (dctD ps)) : ∃ a kvs L', v = .ref a ∧ Rd H a (.dK kvs) ∧ Lle L L' ∧ PD L' kvs ps ∧ SR H L' S T ∧ ((∃ n, d = .cell n) → H a = some (.dK kvs)) := by
  obtain ⟨rho, x⟩ := s
  have key : ∀ (vs : List V), RDs H (rho ++ T.map (·.1)) rho (ps.map (·.2)) vs → SR H (LaddL L vs (ps.map (·.2))) S T ∧ Ls (LaddL L vs (ps.map (·.2))) vs (ps.map (·.2)) := fun vs r => by
    have q := RDs.ls (LR := fun v d => RD H (rho ++ T.map (·.1)) rho d v) (fun _ _ h => h) r
    refine ⟨⟨rho, x.more fun v d z => ?_⟩, Ls.of q.length fun i w c e1 e2 => .inr ⟨i, e1, e2⟩⟩
    rcases z with z | ⟨i, e1, e2⟩
    · exact .inl z
    · obtain ⟨w, e3, r⟩ := q.get e2
      rw [e1] at e3
      injection e3 with e3
      subst e3
      exact .inr r
  cases d with
  | cell n =>
    obtain ⟨a, ha, e⟩ := x.at_ h
    obtain ⟨vs, e1, _, r⟩ := x.node n a _ ha hv
    obtain ⟨s1, p1⟩ := key vs r
    exact ⟨a, _, _, e, .inl e1, LaddL.le, PD.of p1, s1, fun _ => e1⟩
  | dct ks xs =>
    simp only [view, Option.some.injEq, dctD, Dat.dct.injEq] at hv
    obtain ⟨rfl, rfl⟩ := hv
    have q := x.rd v _ h
    simp only [RD] at q
    obtain ⟨a, vs, e, _, r1, _, r⟩ := q
    obtain ⟨s1, p1⟩ := key vs r
    exact ⟨a, _, _, e, r1, LaddL.le, PD.of p1, s1, fun ⟨n, z⟩ => by cases z⟩
  | _ => simp [view, dctD] at hv
theorem ho_dct {L : LL} {kvs : List (Key × V)} {ps : List (Key × Dat)} (h : PD L kvs ps) : HoOf (kvs.map (·.2)) (dctD ps) (.dK kvs) := by
  obtain ⟨e, _⟩ := h.out
  exact ⟨by rw [← e], by rw [List.length_map, List.length_map, h.len]⟩
/-! d[k] -/
def rDG : R2 := fun x y H Q => ∃ a v, x = .ref a ∧ DGet H a y (some v) ∧ Q v H
def gDG : G2 := fun x y S K => ∃ ps k d, view S x = some (dctD ps) ∧ kOf y = some k ∧ valD ps k = some d ∧ K d S
section
variable {X : Cx} {W : WX} {o i e : Expr} {td ty : TE} {ud uy : UE} {pos apos cpos : Pos}
/-! in -/
def rDI (f : Bool → Bool) : R2 := fun y x H Q => ∃ a o, x = .ref a ∧ DGet H a y o ∧ Q (.bl (f o.isSome)) H
def gDI (f : Bool → Bool) : G2 := fun y x S K => ∃ ps k, view S x = some (dctD ps) ∧ kOf y = some k ∧ K (.bl (f (valD ps k).isSome)) S
/-! d[k] = v -/
def rDP : TSet := fun o i v H Q => ∃ a H4, o = .ref a ∧ DPut H a i v H4 ∧ Q H4
def gDP : GS := fun o i v S K => match o with
  | .cell n => ∃ ps k, S[n]? = some (dctD ps) ∧ kOf i = some k ∧ ps.length < sizeLine ∧ K (S.set n (dctD (putD ps k v)))
  | _ => False
/-! d.get(k) -/
def uDGet (ud uy : UE) : UE := fun dl S K X => ud dl S (fun d S1 => (∃ ps, view S1 d = some (dctD ps)) ∧ uy dl S1 (fun y S2 => ∃ ps k, view S2 d = some (dctD ps) ∧ kOf y = some k ∧ K ((valD ps k).getD .non) S2) X) X
/-! list(d), sorted(d) -/
def gKeys (c : Bool) : GL := fun ds S K => match ds with
  | [d] => ∃ ps, view S d = some (dctD ps) ∧ (match c with
    | true => K (.cell S.length) (S ++ [.lst (ps.map fun p => keyD p.1)])
    | false => K (.lst (ps.map fun p => keyD p.1)) S)
  | _ => False
def gSortD (c : Bool) : GL := fun ds S K => match ds with
  | [d] => ∃ ps ks, view S d = some (dctD ps) ∧ ps.map (·.1) = ks.map Sum.inl ∧ ks.length < 64 ∧ ∀ ys : List Int, ys.Perm ks → ys.Pairwise (· ≤ ·) → (match c with
    | true => K (.cell S.length) (S ++ [.lst (ys.map Dat.int)])
    | false => K (.lst (ys.map Dat.int)) S)
  | _ => False
/-- sorted(xs), ints -/
def gSortI : GL := fun ds S K => match ds with
  | [d] => ∃ ks : List Int, lstD S d = some (ks.map Dat.int) ∧ ∀ ys : List Int, ys.Perm ks → ys.Pairwise (· ≤ ·) → K (.lst (ys.map Dat.int)) S
  | _ => False
/-! dict(pairs) -/
def gDictP : GL := fun ds S K => match ds with
  | [d] => ∃ ps, lstD S d = some (ps.map pairD) ∧ K (.cell S.length) (S ++ [dctD (mergeD [] ps)])
  | _ => False
end
section
variable {S : Store} {K : KE} {x y : Dat} {ps : List (Key × Dat)} {k : Key} {d : Dat} {dl : Env'} {X : KX} {ud uy : UE}
theorem x_dget (h : ud dl S (fun d S1 => (∃ ps, view S1 d = some (dctD ps)) ∧ uy dl S1 (fun y S2 => ∃ ps k, view S2 d = some (dctD ps) ∧ kOf y = some k ∧ K ((valD ps k).getD .non) S2) X) X) : uDGet ud uy dl S K X := h
end
end DL
/-! DY20: sorted(t), sorted(set(t)), t a tuple of ints. -/
namespace DL
open PySem PySem.Spec L2 PyProof.Rows
section
variable {X : Cx} {W : WX}
def rSortU (K : PySem.W.Frag) : List V → Hp → VK → Prop := fun vs H Q => ∃ (a : Addr) (ns : List Int), vs = [V.ref a] ∧ SqT K H a (ns.map V.int) ∧ ns.length < 64 ∧
  ∀ (ys : List Int) (p : Addr), ys.Perm ns → ys.Pairwise (· ≤ ·) → H p = none → Q (.ref p) (upd H p (.lst (ys.map V.int)))
/-- sorted(t), t a tuple of ints -/
def gSortU : GL := fun ds S K => match ds with
  | [.tup xs] => ∃ ks : List Int, xs = ks.map Dat.int ∧ ks.length < 64 ∧ ∀ ys : List Int, ys.Perm ks → ys.Pairwise (· ≤ ·) → K (.lst (ys.map Dat.int)) S
  | _ => False
/-! set(t) -/
def rSetI (K : PySem.W.Frag) (w : World) : List V → Hp → VK → Prop := fun xs H Q => ∃ (a : Addr) (ns : List Int), xs = [.ref a] ∧ SqT K H a (ns.map V.int) ∧ ns.length < 60 ∧
  ∀ (p : Addr) (S : Int → Bool) (c : Nat), H p = none → (∀ k : Int, S k = true ↔ k ∈ ns) → c ≤ ns.length → Q (.ref p) (upd H p (SetO w p S c))
/-- sorted(set(e)) -/
def uSortSet (ue : UE) : UE := fun dl S K X => ue dl S (fun d S1 => ∃ ns : List Int, d = .tup (ns.map Dat.int) ∧ ns.length < 60 ∧ ∀ ys : List Int, ys.Pairwise (· < ·) → (∀ k, k ∈ ys ↔ k ∈ ns) → K (.lst (ys.map Dat.int)) S1) X
/-! e[::-1], a list -/
def uRevL (ue : UE) : UE := fun dl S K X => ue dl S (fun d S1 => ∃ xs, lstD S1 d = some xs ∧ K (.lst xs.reverse) S1) X
end
section
variable {S : Store} {K : KE} {dl : Env'} {X : KX} {ue : UE}
theorem x_sortset (h : ue dl S (fun d S1 => ∃ ns : List Int, d = .tup (ns.map Dat.int) ∧ ns.length < 60 ∧ ∀ ys : List Int, ys.Pairwise (· < ·) → (∀ k, k ∈ ys ↔ k ∈ ns) → K (.lst (ys.map Dat.int)) S1) X) : uSortSet ue dl S K X := h
end
end DL
/-! DY21: dict displays with ints and texts as keys; d.get(k, e). -/
namespace DL
open PySem PySem.Spec L2 PyProof.Rows
section
variable {H : Hp} {L : LL} {S : Store} {T : List (Addr × HO)}
/-- what is pinned becomes a tree -/
theorem SR.pinTreeO [Tabl] {D : Addr} {o : HO} {d : Dat} (s : SR H L S ((D, o) :: T)) (h : ∀ R rho, D ∉ R → H D = some o → (∀ v d, L v d → RD H R rho d v) → RD H R rho d (.ref D)) : SR H (Ladd L (.ref D) d) S T := by
  obtain ⟨rho, x⟩ := s
  obtain ⟨y, nD, hD⟩ := x.unpin
  refine ⟨rho, y.more fun v d q => ?_⟩
  rcases q with q | ⟨rfl, rfl⟩
  · exact .inl q
  · exact .inr (h _ _ nD hD y.rd)
/-- .. a cell -/
theorem SR.pinCellO [Tabl] {D : Addr} {o : HO} {vs : List V} {d : Dat} (s : SR H L S ((D, o) :: T)) (ho : HoOf vs d o) (p : Ls L vs (kids d)) : SR H (Ladd L (.ref D) (.cell S.length)) (S ++ [d]) T := by
  obtain ⟨rho, x⟩ := s
  have hD := x.pin (D, o) List.mem_cons_self
  have e1 : ((rho ++ [D]) ++ T.map (·.1)).Perm (rho ++ ((D, o) :: T).map (·.1)) := by simp
  have m : Mono H H (rho ++ ((D, o) :: T).map (·.1)) ((rho ++ [D]) ++ T.map (·.1)) rho (rho ++ [D]) :=
    ⟨fun _ _ _ e _ _ => e, fun a h => .inl (e1.mem_iff.mp h), fun n a e => by rw [List.getElem?_append_left (List.getElem?_eq_some_iff.mp e).1]; exact e, fun _ _ _ h => h⟩
  refine ⟨rho ++ [D], by simp [x.len], e1.nodup_iff.mpr x.nd, fun n a c h1 h2 => ?_, fun p hp => x.pin p (List.mem_cons_of_mem _ hp), fun v c q => ?_, x.tab, x.cel, fun v c q => RD.mono m (x.own v c q), fun p hp => x.ntb p (List.mem_cons_of_mem _ hp)⟩
  · by_cases hn : n < rho.length
    · rw [List.getElem?_append_left hn] at h1
      rw [List.getElem?_append_left (by rw [← x.len]; exact hn)] at h2
      exact (x.node n a c h1 h2).mono m rfl
    · have e : n = rho.length := by
        have := (List.getElem?_eq_some_iff.mp h1).1
        simp at this; omega
      subst e
      rw [List.getElem?_append_right (Nat.le_refl _)] at h1
      rw [List.getElem?_append_right (by rw [x.len]; exact Nat.le_refl _), x.len] at h2
      simp at h1 h2
      subst h1; subst h2
      exact node_of hD ho (Ls.rds (fun v c q => RD.mono m (x.rd v c q)) p)
  · rcases q with q | ⟨rfl, rfl⟩
    · exact RD.mono m (x.rd v c q)
    · simp only [RD]
      exact ⟨D, by rw [← x.len, List.getElem?_append_right (Nat.le_refl _)]; simp, rfl⟩
theorem SR.pinPut [Tabl] {D : Addr} {o o' : HO} (s : SR H L S ((D, o) :: T)) (n0 : (∀ ps, o' ≠ .tbl ps) ∧ ∀ Q, o' ≠ .ext Q := by (constructor <;> (intro _ z; cases z))) (n1 : ∀ ps, o ≠ .tbl ps := by (intro _ z; cases z)) (n2 : ∀ P, o ≠ .ext P := by (intro _ z; cases z)) : SR (upd H D o') L S ((D, o') :: T) := let ⟨rho, x⟩ := s; ⟨rho, x.pinSet n0 n1 n2⟩
theorem SR.pinAt [Tabl] {D : Addr} {o : HO} (s : SR H L S ((D, o) :: T)) : H D = some o := let ⟨_, x⟩ := s; x.pin (D, o) List.mem_cons_self
/-- a dict that was pinned, a tree -/
theorem SR.pinDct [Tabl] {D : Addr} {kvs : List (Key × V)} {ps : List (Key × Dat)} (s : SR H L S ((D, .dK kvs) :: T)) (p : PD L kvs ps) : SR H (Ladd L (.ref D) (dctD ps)) S T := by
  obtain ⟨e, l⟩ := p.out
  refine s.pinTreeO fun R rho nD hD hL => ?_
  unfold dctD
  simp only [RD]
  refine ⟨D, kvs.map (·.2), rfl, nD, .inl (by rw [hD, ← e]), by rw [List.length_map, List.length_map, p.len], Ls.rds hL l⟩
theorem SR.pinDctC [Tabl] {D : Addr} {kvs : List (Key × V)} {ps : List (Key × Dat)} (s : SR H L S ((D, .dK kvs) :: T)) (p : PD L kvs ps) : SR H (Ladd L (.ref D) (.cell S.length)) (S ++ [dctD ps]) T :=
  s.pinCellO (ho_dct p) p.out.2
end
/-- the pairs of a display, from the left -/
def uPairs : List (UE × UE) → Env' → Store → (List (Dat × Dat) → Store → Prop) → KX → Prop
  | [], _, S, K, _ => K [] S
  | (uk, uv) :: r, dl, S, K, X => uk dl S (fun x S1 => uv dl S1 (fun y S2 => uPairs r dl S2 (fun qs S3 => K ((x, y) :: qs) S3) X) X) X
structure DPs [Tabl] (X : Cx) (W : WX) (pos : Pos) (keys : List (Option Expr)) (values : List Expr) (trs : List (TE × TE)) (us : List (UE × UE)) : Prop where
  run : PPs X pos keys values trs
  imp : ∀ {sg dl L H S T K X' Q}, EnvIn sg dl L → SR H L S T → uPairs us dl S K X' → (∀ vs qs L' H' S', Lle L L' → Ls L' (vs.map (·.1)) (qs.map (·.1)) → Ls L' (vs.map (·.2)) (qs.map (·.2)) → vs.length = qs.length → SR H' L' S' T → K qs S' → Q vs H') → XOk W sg L T X' → tPairs trs sg H Q
section
variable {X : Cx} {W : WX} {pos : Pos}
theorem dps_nil [Tabl] : DPs X W pos [] [] [] [] := ⟨pps_nil, fun {sg dl L H S T K X' Q} _ hs h hq _ => hq [] [] L H S (.refl L) True.intro True.intro rfl hs h⟩
theorem dps_cons [Tabl] {k v : Expr} {ks : List (Option Expr)} {vs : List Expr} {tk tv : TE} {uk uv : UE} {trs : List (TE × TE)} {us : List (UE × UE)} (hk : DE X W k tk uk) (hv : DE X W v tv uv) (hr : DPs X W pos ks vs trs us) :
    DPs X W pos (some k :: ks) (v :: vs) ((tk, tv) :: trs) ((uk, uv) :: us) :=
  ⟨pps_cons hk.run hv.run hr.run, fun {sg dl L H S T K X' Q} hE hs h hq hx =>
    hk.imp hE hs h (fun x dx L1 H1 S1 l1 p1 s1 h1 => hv.imp (hE.le l1) s1 h1 (fun y dy L2 H2 S2 l2 p2 s2 h2 =>
      hr.imp (hE.le (l1.trans l2)) s2 h2 (fun vs qs L3 H3 S3 l3 p3 p4 e s3 h3 => hq ((x, y) :: vs) ((dx, dy) :: qs) L3 H3 S3 ((l1.trans l2).trans l3) ⟨l3 _ _ (l2 _ _ p1), p3⟩ ⟨l3 _ _ p2, p4⟩ (by rw [List.length_cons, List.length_cons, e]) s3 h3) (hx.le (l1.trans l2))) (hx.le l1)) hx⟩
/-- {k: v, ..}; c: whether it is changed later -/
def uDisp (c : Bool) (us : List (UE × UE)) : UE := fun dl S K X => uPairs us dl S (fun qs S1 => ∃ ps : List (Key × Dat), qs = ps.map (fun p => (keyD p.1, p.2)) ∧ ps.length ≤ 15 ∧ (match c with
  | true => K (.cell S1.length) (S1 ++ [dctD (mergeD [] ps)])
  | false => K (dctD (mergeD [] ps)) S1)) X
theorem disp_rel [Tabl] {H : Hp} {S : Store} {T : List (Addr × HO)} {L : LL} (s : SR H L S T) : ∀ {ps : List (Key × Dat)} {vs : List (V × V)}, Ls L (vs.map (·.1)) (ps.map fun p => keyD p.1) → Ls L (vs.map (·.2)) (ps.map (·.2)) → ∃ kvs : List (Key × V), vs = kvs.map (fun kv => (kV kv.1, kv.2)) ∧ PD L kvs ps
  | [], [], _, _ => ⟨[], rfl, .nil⟩
  | (k, d) :: ps, (x, y) :: vs, h1, h2 => by
    obtain rfl := kOf_v s h1.1 (kOf_key k)
    obtain ⟨kvs, e, pd⟩ := disp_rel s h1.2 h2.2
    exact ⟨(k, y) :: kvs, by rw [e]; rfl, .cons k h2.1 pd⟩
  | [], _ :: _, h, _ => h.elim
  | _ :: _, [], h, _ => h.elim
theorem de_disp [Tabl] {c : Bool} {keys : List (Option Expr)} {values : List Expr} {trs : List (TE × TE)} {us : List (UE × UE)} (h : DPs X W pos keys values trs us) (hall : keys.all (·.isSome) = true := by rfl) (hl : keys.length = values.length := by rfl) (h0 : keys ≠ [] := by (intro z; cases z)) (h15 : keys.length ≤ 15 := by (exact Nat.le_of_ble_eq_true rfl)) : DE X W (.Dict keys values pos) (tDisp trs) (uDisp c us) :=
  ⟨pe_disp h.run hall hl h0 h15, fun {sg dl L H S T K X' Q} hE hs hu hq hx p hp => by
    have s0 := hs.pinNew (o := .dK []) hp
    have hx' : XOk W sg L ((p, HO.dK []) :: T) X' := fun e dd L' H' S' l q s z => hx e dd L' H' S' l q s.unpin z
    refine h.imp hE s0 hu (fun vs qs L1 H1 S1 l1 p1 p2 el s1 ⟨ps, eq, h15', k1⟩ => ?_) hx'
    subst eq
    rw [List.map_map] at p1 p2
    obtain ⟨kvs, ev, pd⟩ := disp_rel s1 p1 p2
    refine ⟨s1.pinAt, kvs, ev, by rw [pd.len]; exact h15', ?_⟩
    have s2 := s1.pinPut (o' := .dK (mergeK [] kvs))
    have pm := PD.merge pd (kvs := []) (ps := []) .nil
    cases c with
    | true => exact hq _ _ _ _ _ (l1.trans Ladd.le) Ladd.here (s2.pinDctC pm) k1
    | false => exact hq _ _ _ _ S1 (l1.trans Ladd.le) Ladd.here (s2.pinDct pm) k1⟩
/-! d.get(k, e) -/
def uDGet2 (ud uy uz : UE) : UE := fun dl S K X => ud dl S (fun d S1 => (∃ ps, view S1 d = some (dctD ps)) ∧ uy dl S1 (fun y S2 => uz dl S2 (fun z S3 => ∃ ps k, view S3 d = some (dctD ps) ∧ kOf y = some k ∧ K ((valD ps k).getD z) S3) X) X) X
theorem de_dget2 [Tabl] {o e f : Expr} {td ty tz : TE} {ud uy uz : UE} {apos cpos : Pos} (hu : X.A.units + 64 < cLine) (ho : DE X W o td ud) (he : DE X W e ty uy) (hf : DE X W f tz uz) (hb : attributeBase o "get" X.env (eval o X.env) = eval o X.env := by rfl)
    (h1 : ((backTo cpos (starEach [e, f] X.env)).all (fun x => !x.1) && (backToKw cpos (keywordEach [] X.env)).all (fun x => x.1.isSome)
    && decide (([e, f] : List Expr).length + ([] : List Keyword).length + (if ([] : List Keyword).isEmpty then 0 else 1) < 30)) = true := by rfl)
    (hl : (apos.endLine == cpos.line) = true := by rfl) (ht : backTo cpos (starEach [e, f] X.env) = [(false, eval e X.env), (false, eval f X.env)] := by rfl) :
    DE X W (.Call (.Attribute o "get" apos) [e, f] [] cpos) (tDGet2 td ty tz) (uDGet2 ud uy uz) :=
  ⟨pe_dget2 (by omega) ho.run he.run hf.run ⟨hb, h1, hl, ht⟩, fun {sg dl L H S T K X' Q} hE hs h hq hx => by
    refine ho.imp hE hs h (fun v d L1 H1 S1 l1 p1 s1 ⟨⟨ps0, hv0⟩, h1⟩ => ?_) hx
    obtain ⟨a, kvs0, L2, rfl, r0, l2, _, s2, _⟩ := s1.dctV p1 hv0
    refine ⟨a, rfl, .inl ⟨_, r0⟩, he.imp (hE.le (l1.trans l2)) s2 h1 (fun y dy L3 H3 S3 l3 p3 s3 h3 => ?_) (hx.le (l1.trans l2))⟩
    refine hf.imp (hE.le ((l1.trans l2).trans l3)) s3 h3 (fun z dz L4 H4 S4 l4 p4 s4 ⟨ps, k, hv, hk, h4⟩ => ?_) (hx.le ((l1.trans l2).trans l3))
    obtain ⟨a', kvs, L5, ea, r, l5, pd, s5, _⟩ := s4.dctV (l4 _ _ (l3 _ _ (l2 _ _ p1))) hv
    cases ea
    obtain rfl := kOf_v s4 (l4 _ _ p3) hk
    refine ⟨valV kvs k, .inl ⟨kvs, k, r, rfl, rfl⟩, ?_⟩
    have lall := (((l1.trans l2).trans l3).trans l4).trans l5
    rcases pd.val k with ⟨e1, e2⟩ | ⟨v, d', e1, e2, e3⟩
    · rw [e1]; rw [e2] at h4
      exact hq _ _ L5 H4 S4 lall (l5 _ _ p4) s5 h4
    · rw [e1]; rw [e2] at h4
      exact hq _ _ L5 H4 S4 lall e3 s5 h4⟩
end
section
variable {S : Store} {K : KE} {dl : Env'} {X : KX} {us : List (UE × UE)} {uk uv ud uy uz : UE} {KP : List (Dat × Dat) → Store → Prop}
theorem x_disp (h : uPairs us dl S (fun qs S1 => ∃ ps : List (Key × Dat), qs = ps.map (fun p => (keyD p.1, p.2)) ∧ ps.length ≤ 15 ∧ K (dctD (mergeD [] ps)) S1) X) : uDisp false us dl S K X := h
theorem x_dispC (h : uPairs us dl S (fun qs S1 => ∃ ps : List (Key × Dat), qs = ps.map (fun p => (keyD p.1, p.2)) ∧ ps.length ≤ 15 ∧ K (.cell S1.length) (S1 ++ [dctD (mergeD [] ps)])) X) : uDisp true us dl S K X := h
theorem x_pairs (h : uk dl S (fun x S1 => uv dl S1 (fun y S2 => uPairs us dl S2 (fun qs S3 => KP ((x, y) :: qs) S3) X) X) X) : uPairs ((uk, uv) :: us) dl S KP X := h
theorem x_pairs0 (h : KP [] S) : uPairs [] dl S KP X := h
theorem x_dget2 (h : ud dl S (fun d S1 => (∃ ps, view S1 d = some (dctD ps)) ∧ uy dl S1 (fun y S2 => uz dl S2 (fun z S3 => ∃ ps k, view S3 d = some (dctD ps) ∧ kOf y = some k ∧ K ((valD ps k).getD z) S3) X) X) X) : uDGet2 ud uy uz dl S K X := h
end
end DL
/-! DY22: x in (y, z) for tuples within; max, min of ints in a list or a tuple; range as a value. -/
namespace DL
open PySem PySem.Spec L2 PyProof.Rows
section
variable {X : Cx} {W : WX}
def rInT (K : PySem.W.Frag) (f : Bool → Bool) : R2 := fun x y H Q => ∃ d ds, Dp K H x d ∧ (Dp K H y (.list ds) ∨ Dp K H y (.tuple ds)) ∧ SeqAt.shaped d = true ∧ SeqAt.shaped (.list ds) = true ∧ Q (.bl (f (ds.any fun z => PyData.eqv z d))) H
theorem op_inT (hu : X.A.units + 65 < cLine) : OpR X (compareOp .In) (rInT X.K id) := by
  intro pins s σ H x y v u Q I rx ry h
  obtain ⟨d, ds, hd, he, sd, se, q⟩ := h
  obtain ⟨as, r1⟩ := Dp.reads I d x v hd rx
  rcases he with he | he
  · obtain ⟨bs, r2⟩ := Dp.reads I (.list ds) y u he ry
    exact SeqAt.in_list_reads r2 r1 (SeqAt.canLay_of_shaped se) (SeqAt.canLay_of_shaped sd) (room_in_shaped sd hu) ⟨.bl _, H, I, rfl, q⟩
  · obtain ⟨bs, r2⟩ := Dp.reads I (.tuple ds) y u he ry
    exact SeqAt.in_tuple_reads r2 r1 (SeqAt.canLay_of_shaped se) (SeqAt.canLay_of_shaped sd) (room_in_shaped sd hu) ⟨.bl _, H, I, rfl, q⟩
/-- x in y, the items of any data -/
def gInP (f : Bool → Bool) : G2 := fun x y S K => ∃ xs p ps, seqD S y = some xs ∧ Py S x p ∧ Pys S xs ps ∧ SeqAt.shaped p = true ∧ SeqAt.shaped (.list ps) = true ∧ K (.bl (f (ps.any fun z => PyData.eqv z p))) S
theorem inP_imp [Tabl] {f : Bool → Bool} {KF : PySem.W.Frag} : OpI (rInT KF f) (gInP f) := fun {x y dx dy L H S T K Q} hs px py ⟨xs, p, ps, e, h1, h2, h3, h4, h⟩ hq => by
  obtain ⟨rho, z⟩ := id hs
  refine ⟨p, ps, h1.dp z.node (z.rd _ _ px), ?_, h3, h4, hq.flat hs (d := .bl _) rfl h⟩
  cases dy with
  | tup ys => cases e; exact .inr ((Py.tup h2).dp z.node (z.rd _ _ py))
  | lst ys => cases e; exact .inl ((Py.lst h2).dp z.node (z.rd _ _ py))
  | cell n =>
    simp only [seqD] at e
    split at e
    · rename_i ys hm
      cases e
      exact .inl ((Py.cell hm h2).dp z.node (z.rd _ _ py))
    · cases e
  | _ => cases e
theorem dop_inP [Tabl] (hu : X.A.units + 65 < cLine) : DOp X (compareOp .In) (rInT X.K id) (gInP id) := ⟨op_inT hu, inP_imp⟩
/-! max, min -/
theorem dpAll_ints {K : PySem.W.Frag} {H : Hp} : ∀ ns : List Int, DpAll K H (ns.map V.int) (ns.map PyData.int)
  | [] => .nil
  | n :: ns => .cons (.int n) (dpAll_ints ns)
theorem maxOf_int : ∀ (xs : List Int) (x : Int), PySem.W.maxOf x xs ∈ x :: xs ∧ ∀ a ∈ x :: xs, a ≤ PySem.W.maxOf x xs := by
  intro xs
  induction xs with
  | nil => intro x; exact ⟨List.mem_cons_self, fun a h => by rcases List.mem_cons.mp h with rfl | h; exact Int.le_refl _; cases h⟩
  | cons y ys ih =>
    intro x
    obtain ⟨h1, h2⟩ := ih (if PySem.W.DatumOrd.lt x y = true then y else x)
    have e : PySem.W.maxOf x (y :: ys) = PySem.W.maxOf (if PySem.W.DatumOrd.lt x y = true then y else x) ys := rfl
    rw [e]
    have hlt : PySem.W.DatumOrd.lt x y = decide (x < y) := rfl
    rw [hlt] at h1 h2 ⊢
    by_cases c : x < y
    · rw [if_pos (decide_eq_true c)] at h1 h2 ⊢
      refine ⟨List.mem_cons_of_mem _ h1, fun a ha => ?_⟩
      rcases List.mem_cons.mp ha with rfl | ha
      · have := h2 y List.mem_cons_self; omega
      · exact h2 a ha
    · rw [if_neg (by simp [c])] at h1 h2 ⊢
      refine ⟨?_, fun a ha => ?_⟩
      · rcases List.mem_cons.mp h1 with h | h
        · rw [h]; exact List.mem_cons_self
        · exact List.mem_cons_of_mem _ (List.mem_cons_of_mem _ h)
      · rcases List.mem_cons.mp ha with rfl | ha
        · exact h2 a List.mem_cons_self
        · rcases List.mem_cons.mp ha with rfl | ha
          · have := h2 x List.mem_cons_self; omega
          · exact h2 a (List.mem_cons_of_mem _ ha)
def rMaxS (K : PySem.W.Frag) : List V → Hp → VK → Prop := fun vs H Q => ∃ (a : Addr) (ns : List Int), vs = [V.ref a] ∧ (SqL K H a (ns.map V.int) ∨ SqT K H a (ns.map V.int)) ∧ 0 < ns.length ∧ ∀ m, m ∈ ns → (∀ y, y ∈ ns → y ≤ m) → Q (.int m) H
theorem cr_maxS (hc : X.calm = true) (hu : X.A.units + 64 < cLine) : CallR X (.builtin "max") (rMaxS X.K) := by
  intro pins s σ H vs us Q I r h
  obtain ⟨a, ns, rfl, hs, hne, q⟩ := h
  rcases hs with hs | hs
  · obtain ⟨its, rv, hl, _⟩ := I.list hs
    rw [Vals.ref1 r]
    exact max_raw (I.ok.hd hc) hl.isList rv.ints hne fun h' tk m t' hk h1 h2 => ⟨.int _, H, I.kept hk, ⟨_, rfl⟩, q m h1 h2⟩
  · obtain ⟨its, rv, hl, _⟩ := I.tuple hs
    rw [Vals.ref1 r]
    obtain ⟨as, rd⟩ := Dp.readsAll I (ns.map PyData.int) (ns.map V.int) its (dpAll_ints ns) rv
    cases ns with
    | nil => cases hne
    | cons n ns =>
      have hd : (PySem.W.Datum.depth Int) = 0 := rfl
      refine PySem.W.max_tuple_datum (α := Int) (x := n) (xs := ns) (I.ok.hd hc) (let ⟨o, h1, h2, n, h3⟩ := hl; ⟨o, h1, h2, n, h3⟩) ⟨as, by rw [List.toList_toArray]; exact rd⟩ (by rw [hd]; omega) fun i v h' tk hi ho hk => ?_
      obtain ⟨bs, ho⟩ := ho
      cases ho with
      | int =>
        obtain ⟨h1, h2⟩ := maxOf_int ns n
        exact ⟨.int _, H, I.kept hk, ⟨_, rfl⟩, q _ h1 h2⟩
/-- max(xs), ints in a list or a tuple -/
def gMaxS : GL := fun ds S K => match ds with
  | [d] => ∃ ns : List Int, seqD S d = some (ns.map Dat.int) ∧ 0 < ns.length ∧ ∀ m, m ∈ ns → (∀ y, y ∈ ns → y ≤ m) → K (.int m) S
  | _ => False
theorem dcb_maxS [Tabl] (hc : X.calm = true) (hu : X.A.units + 64 < cLine) : DCb X (.builtin "max") (rMaxS X.K) gMaxS := ⟨cr_maxS hc hu, fun {xs ds L H S T K Q} hs p h hq => by
  unfold gMaxS at h
  split at h
  · obtain ⟨v, rfl, pv⟩ := p.one
    obtain ⟨ns, e, hl, h⟩ := h
    obtain ⟨a, vs, rfl, h1, s1, p1⟩ := hs.seq (KF := X.K) pv e
    rw [p1.ints s1] at h1
    exact ⟨a, ns, rfl, h1, hl, fun m m1 m2 => hq.flat hs (d := .int _) rfl (h m m1 m2)⟩
  · exact h.elim⟩
theorem dcb_maxSK [Tabl] (KK : PySem.W.Frag) (hK : X.K = KK) (hc : X.calm = true) (hu : X.A.units + 64 < cLine) : DCb X (.builtin "max") (rMaxS KK) gMaxS := by subst hK; exact dcb_maxS hc hu
/-! list(range(..)), tuple(range(..)) -/
/-- a range -/
structure DRg [Tabl] (X : Cx) (W : WX) (e : Expr) (t : L2.St → Hp → (Int → Int → Hp → Prop) → Prop) (u : Env' → Store → (Int → Int → Store → Prop) → KX → Prop) : Prop where
  run : PRg X e t
  imp : ∀ {sg dl L H S T K X' Q}, EnvIn sg dl L → SR H L S T → u dl S K X' → (∀ a b L' H' S', Lle L L' → SR H' L' S' T → K a b S' → Q a b H') → XOk W sg L T X' → t sg H Q
def uG1 (ue : UE) : Env' → Store → (Int → Int → Store → Prop) → KX → Prop := fun dl S K X => ue dl S (fun d S1 => ∃ n : Int, d = .int n ∧ K 0 n S1) X
def uG2 (ue uf : UE) : Env' → Store → (Int → Int → Store → Prop) → KX → Prop := fun dl S K X => ue dl S (fun d S1 => uf dl S1 (fun c S2 => ∃ m n : Int, d = .int m ∧ c = .int n ∧ K m n S2) X) X
def rgD (a b : Int) : List Dat := (List.range (b - a).toNat).map fun (i : Nat) => Dat.int (a + (i : Int))
def uListRg (c : Bool) (ur : Env' → Store → (Int → Int → Store → Prop) → KX → Prop) : UE := fun dl S K X => ur dl S (fun a b S1 => RgOk a b ∧ (match c with
  | true => K (.cell S1.length) (S1 ++ [.lst (rgD a b)])
  | false => K (.lst (rgD a b)) S1)) X
def uTupRg (ur : Env' → Store → (Int → Int → Store → Prop) → KX → Prop) : UE := fun dl S K X => ur dl S (fun a b S1 => RgOk a b ∧ K (.tup (rgD a b)) S1) X
end
section
variable {S : Store} {K : KE} {dl : Env'} {X : KX} {ue uf : UE} {KR : Int → Int → Store → Prop} {ur : Env' → Store → (Int → Int → Store → Prop) → KX → Prop}
theorem x_g1 (h : ue dl S (fun d S1 => ∃ n : Int, d = .int n ∧ KR 0 n S1) X) : uG1 ue dl S KR X := h
theorem x_listRg (h : ur dl S (fun a b S1 => RgOk a b ∧ K (.lst (rgD a b)) S1) X) : uListRg false ur dl S K X := h
theorem x_listRgC (h : ur dl S (fun a b S1 => RgOk a b ∧ K (.cell S1.length) (S1 ++ [.lst (rgD a b)])) X) : uListRg true ur dl S K X := h
theorem x_tupRg (h : ur dl S (fun a b S1 => RgOk a b ∧ K (.tup (rgD a b)) S1) X) : uTupRg ur dl S K X := h
end
theorem room65 {k : Nat} {A : Around} (r : Room k A) : A.units + 65 < cLine := by have := r.un; omega
end DL
/-! SB: the promises of the laws' common defs: the bag, draws, same. -/
namespace DL
open PySem L2
/-- the bag of numbers that a law draws from -/
def IsBag (d : Dat) : Prop := ∃ (ns : List Int) (i r m c : Int), d = .lst [.lst (ns.map Dat.int), .int i, .int r, .int m, .int c] ∧ ns.length ≤ 63 ∧ 0 ≤ i ∧ 0 ≤ r ∧ 0 ≤ m ∧ m < 2147483629
def sp_law_bag (K : PySem.W.Frag) : Spec := fun ds S Kt _ => ∃ ns : List Int, ds = [.sq K ns] ∧ ns.length ≤ 63 ∧ ∀ bag, IsBag bag → Kt (.cell S.length) (S ++ [bag])
def sp_law_pull (K : PySem.W.Frag) : Spec := fun ds S Kt _ => ∃ (b : Nat) (n : Int) (bag : Dat), ds = [.cell b, .int n] ∧ 0 < n ∧ n < 1073741824 ∧ S[b]? = some bag ∧ IsBag bag ∧ ∀ (k : Nat) bag', (k : Int) < n → IsBag bag' → Kt (.int k) (S.set b bag')
/-- what one draws from -/
def drawn (S : Store) (d : Dat) (xs : List Dat) : Prop := (∃ z : Str, d = .str z ∧ z.length ≤ sizeLine ∧ xs = z.cps.toList.map fun c => .str (sgn c)) ∨ ((∀ z, d ≠ .str z) ∧ seqD S d = some xs)
def sp_law_of (K : PySem.W.Frag) : Spec := fun ds S Kt _ => ∃ (b : Nat) (d : Dat) (xs : List Dat) (bag : Dat), ds = [.cell b, d] ∧ drawn S d xs ∧ (∀ bag', IsBag bag' → drawn (S.set b bag') d xs) ∧ 0 < xs.length ∧ xs.length < 1073741824 ∧ S[b]? = some bag ∧ IsBag bag ∧
  ∀ (k : Nat) x bag', xs[k]? = some x → IsBag bag' → Kt x (S.set b bag')
/-- x and y are the same data, to the depth n -/
def SameD (S : Store) : Nat → Dat → Dat → Prop
  | 0, _, _ => False
  | n + 1, x, y => (y = .non ∧ x = .non) ∨ (∃ b, y = .bl b ∧ x = .bl b) ∨ (∃ b, y = .int b ∧ x = .int b) ∨ (∃ b, y = .str b ∧ x = .str b) ∨
    (∃ xs ys, x = .tup xs ∧ y = .tup ys ∧ xs.length = ys.length ∧ xs.length ≤ sizeLine ∧ ∀ (i : Nat) a b, xs[i]? = some a → ys[i]? = some b → SameD S n a b) ∨
    (∃ xs ys, lstD S x = some xs ∧ lstD S y = some ys ∧ xs.length = ys.length ∧ xs.length ≤ sizeLine ∧ ∀ (i : Nat) a b, xs[i]? = some a → ys[i]? = some b → SameD S n a b)
def sp_law_same (K : PySem.W.Frag) : Nat → Spec
  | 0 => fun _ _ _ _ => False
  | n + 1 => fun ds S Kt _ => ∃ x y, ds = [x, y] ∧ SameD S (n + 1) x y ∧ Kt (.bl true) S
theorem len_law_bag {K : PySem.W.Frag} {ds S Kt X} (h : sp_law_bag K ds S Kt X) : ds.length = 1 := by obtain ⟨_, rfl, _⟩ := h; rfl
theorem len_law_pull {K : PySem.W.Frag} {ds S Kt X} (h : sp_law_pull K ds S Kt X) : ds.length = 2 := by obtain ⟨_, _, _, rfl, _⟩ := h; rfl
theorem len_law_of {K : PySem.W.Frag} {ds S Kt X} (h : sp_law_of K ds S Kt X) : ds.length = 2 := by obtain ⟨_, _, _, _, rfl, _⟩ := h; rfl
theorem len_law_same {K : PySem.W.Frag} {n : Nat} {ds S Kt X} (h : sp_law_same K (n + 1) ds S Kt X) : ds.length = 2 := by obtain ⟨_, _, rfl, _⟩ := h; rfl
end DL
namespace DL
open PySem L2
def u_law_bag (K : PySem.W.Frag) : US :=
  (uSeq (uSet 1 (uC (.int 5632)))
    (uSeq (uFor (uSeqI (uSlQ K (uVar 0) uNo (uPart (uC (.int 63))))) (uName 2) (uSet 1 (uOp gMod (uCB gInt1 (uCons (uOp gAdd (uOp gAdd (uOp gMul (uVar 1) (uC (.int 48271))) (uOp gMul (uOp gMod (uCB gInt1 (uCons (uVar 2) uNil)) (uC (.int 1000003))) (uC (.int 911)))) (uC (.int 7))) uNil)) (uC (.int 2147483629)))))
    (uRet (uLstC (uCons (uCB gListT (uCons (uSlQ K (uVar 0) uNo (uPart (uC (.int 63)))) uNil)) (uCons (uC (.int 0)) (uCons (uC (.int 0)) (uCons (uVar 1) (uCons (uC (.int 0)) uNil)))))))))
def u_law_pull (K : PySem.W.Frag) : US :=
  (uSeq (uAsg (uOp gAdd (uOp gIx (uVar 0) (uC (.int 4))) (uC (.int 1))) (uGSub (uVar 0) (uC (.int 4)) gSetL))
    (uSeq (uIfS (uAnd (uTest (uOp gEq (uOp gIx (uVar 0) (uC (.int 2))) (uC (.int 0)))) (uTest (uOp gLt (uOp gIx (uVar 0) (uC (.int 1))) (uCB gLen (uCons (uOp gIx (uVar 0) (uC (.int 0))) uNil))))) (uSeq (uSet 2 (uOp gIx (uOp gIx (uVar 0) (uC (.int 0))) (uOp gIx (uVar 0) (uC (.int 1)))))
    (uSeq (uAsg (uOp gAdd (uOp gIx (uVar 0) (uC (.int 1))) (uC (.int 1))) (uGSub (uVar 0) (uC (.int 1)) gSetL))
    (uIfS (uTest (uOp gGe (uCB gAbs (uCons (uVar 2) uNil)) (uOp gPow (uC (.int 10)) (uC (.int 18))))) (uAsg (uCB gAbs (uCons (uVar 2) uNil)) (uGSub (uVar 0) (uC (.int 2)) gSetL)) (uAsg (uOp gMod (uCB gInt1 (uCons (uOp gAdd (uOp gAdd (uOp gMul (uOp gIx (uVar 0) (uC (.int 3))) (uC (.int 40692))) (uOp gMul (uOp gMod (uCB gInt1 (uCons (uVar 2) uNil)) (uC (.int 1000003))) (uC (.int 613)))) (uC (.int 11))) uNil)) (uC (.int 2147483629))) (uGSub (uVar 0) (uC (.int 3)) gSetL))))) uNext)
    (uSeq (uIfS (uTest (uOp gGt (uOp gIx (uVar 0) (uC (.int 2))) (uC (.int 0)))) (uSeq (uSet 3 (uOp gMod (uCB gInt1 (uCons (uOp gIx (uVar 0) (uC (.int 2))) uNil)) (uVar 1)))
    (uSeq (uAsg (uOp gFdiv (uOp gIx (uVar 0) (uC (.int 2))) (uVar 1)) (uGSub (uVar 0) (uC (.int 2)) gSetL))
    (uRet (uVar 3)))) uNext)
    (uSeq (uSet 4 (uOp gMod (uCB gInt1 (uCons (uOp gAdd (uOp gMul (uOp gIx (uVar 0) (uC (.int 3))) (uOp gIx (uVar 0) (uC (.int 3)))) (uOp gMul (uOp gIx (uVar 0) (uC (.int 4))) (uC (.int 7919)))) uNil)) (uC (.int 2147483587))))
    (uSeq (uAsg (uOp gMod (uCB gInt1 (uCons (uOp gAdd (uOp gAdd (uOp gMul (uVar 4) (uC (.int 16807))) (uOp gMul (uOp gIx (uVar 0) (uC (.int 3))) (uC (.int 69621)))) (uC (.int 12345))) uNil)) (uC (.int 2147483629))) (uGSub (uVar 0) (uC (.int 3)) gSetL))
    (uRet (uOp gMod (uCB gInt1 (uCons (uOp gFdiv (uOp gIx (uVar 0) (uC (.int 3))) (uC (.int 64))) uNil)) (uVar 1))))))))
def u_law_of (K : PySem.W.Frag) : US :=
  (uRet (uOp gIx (uVar 1) (uCall (sp_law_pull K) [] (uCons (uVar 0) (uCons (uCB gLen (uCons (uVar 1) uNil)) uNil)))))
def u_law_same (K : PySem.W.Frag) (F : Spec) : US :=
  (uSeq (uIfS (uTru (uCB (gIsi K) (uCons (uVar 1) (uCons (uTup (uCons (uC (.raw (.ty "list"))) (uCons (uC (.raw (.ty "tuple"))) uNil))) uNil)))) (uSeq (uIfS (uOr (uTest (uOp gNe (uCB (gIsi K) (uCons (uVar 0) (uCons (uC (.raw (.ty "list"))) uNil))) (uCB (gIsi K) (uCons (uVar 1) (uCons (uC (.raw (.ty "list"))) uNil))))) (uTest (uOp gNe (uCB (gIsi K) (uCons (uVar 0) (uCons (uC (.raw (.ty "tuple"))) uNil))) (uCB (gIsi K) (uCons (uVar 1) (uCons (uC (.raw (.ty "tuple"))) uNil)))))) (uRet (uC (.bl false))) uNext)
    (uRet (uAndV (uOp gEq (uCB gLen (uCons (uVar 0) uNil)) (uCB gLen (uCons (uVar 1) uNil))) (uCB (gBools fun bs => bs.all id) (uCons (uLc (uZ (uCons (uVar 0) (uCons (uVar 1) uNil))) [2, 3] (uGTup 2 (uGCons (uName 2) (uGCons (uName 3) uGNil))) uYes (uCall F [] (uCons (uVar 2) (uCons (uVar 3) uNil)))) uNil))))) uNext)
    (uSeq (uIfS (uOr (uTest (uOp (gIs id) (uVar 1) (uC .non))) (uTest (uOp (gIs id) (uVar 0) (uC .non)))) (uRet (uAndV (uOp (gIs id) (uVar 1) (uC .non)) (uOp (gIs id) (uVar 0) (uC .non)))) uNext)
    (uSeq (uIfS (uOr (uTest (uOp gNe (uCB (gIsi K) (uCons (uVar 1) (uCons (uC (.raw (.ty "bool"))) uNil))) (uCB (gIsi K) (uCons (uVar 0) (uCons (uC (.raw (.ty "bool"))) uNil))))) (uTest (uOp gNe (uCB (gIsi K) (uCons (uVar 1) (uCons (uC (.raw (.ty "int"))) uNil))) (uCB (gIsi K) (uCons (uVar 0) (uCons (uC (.raw (.ty "int"))) uNil)))))) (uRet (uC (.bl false))) uNext)
    (uRet (uAndV (uOp gEq (uCB (gIsi K) (uCons (uVar 1) (uCons (uC (.raw (.ty "str"))) uNil))) (uCB (gIsi K) (uCons (uVar 0) (uCons (uC (.raw (.ty "str"))) uNil)))) (uOp gEq (uVar 0) (uVar 1)))))))
end DL
namespace DL
open PySem L2
local macro_rules | `(tactic| walk_at "e1") => `(tactic| with_reducible first
  | refine x_var rfl ?_ | refine x_c ?_ | refine x_op ?_ | refine x_un ?_ | refine x_nil ?_ | refine x_cons ?_ | refine x_tup ?_ | refine x_lst ?_ | refine x_lstC ?_ | refine x_cb ?_ | refine x_call ?_ | refine x_if ?_
  | refine x_test ?_ | refine x_and ?_ | refine x_or ?_ | refine x_not ?_ | refine x_tru ?_ | refine x_andV ?_ | refine x_orV ?_ | refine x_notV ?_ | refine x_yes ?_ | refine x_chain ?_
  | refine x_bm ?_ | refine x_bm0 ?_ | refine x_part ?_ | refine x_no ?_ | refine x_sl ?_ | refine x_seqI ?_ | refine x_r1 ?_ | refine x_r2 ?_ | refine x_z ?_ | refine x_lc ?_ | refine x_lcC ?_ | refine x_lcW ?_)
local macro_rules | `(tactic| walk_at "s1") => `(tactic| with_reducible first
  | refine x_seq ?_ | refine x_next ?_ | refine x_break ?_ | refine x_cont ?_ | refine x_drop ?_ | refine x_ret ?_ | refine x_retN ?_ | refine x_ifS ?_ | refine x_set ?_ | refine x_asg ?_ | refine x_par ?_ | refine x_gsub ?_ | refine x_gnil ?_ | refine x_gcons ?_)
local macro_rules | `(tactic| walk_at "g1") => `(tactic| first
  | with_reducible refine x_iteT ?_ | with_reducible refine x_iteF ?_ | with_reducible refine x_tN ?_ | with_reducible refine x_tB ?_ | with_reducible refine x_tI ?_ | with_reducible refine x_tT ?_ | with_reducible refine x_tL ?_
  | with_reducible refine x_addI ?_ | with_reducible refine x_sub ?_ | with_reducible refine x_ltI ?_ | with_reducible refine x_leI ?_ | with_reducible refine x_gtI ?_ | with_reducible refine x_geI ?_ | with_reducible refine x_ltS ?_ | with_reducible refine x_leS ?_ | with_reducible refine x_gtS ?_ | with_reducible refine x_geS ?_
  | with_reducible refine x_eqI ?_ | with_reducible refine x_eqS ?_ | with_reducible refine x_eqB ?_ | with_reducible refine x_neI ?_ | with_reducible refine x_neS ?_ | with_reducible refine x_neB ?_ | with_reducible refine x_neg ?_
  | with_reducible refine x_inS ?_ | with_reducible refine x_notinS ?_ | with_reducible refine x_intI ?_ | with_reducible refine x_intB ?_ | with_reducible refine x_abs ?_ | with_reducible refine x_slL ?_
  | ((with_reducible refine x_is ?_ ?_); · rfl) | ((with_reducible refine x_isnot ?_ ?_); · rfl) | ((with_reducible refine x_isiD ?_ ?_ ?_); (next => rfl); (next => decide)) | ((with_reducible refine x_isiD2 ?_ ?_ ?_ ?_); (next => rfl); (next => decide); (next => decide)) | ((with_reducible refine x_name ?_ ?_); · exact of_decide_eq_true rfl) | ((with_reducible refine x_gtup ?_ ?_); · rfl))
local macro_rules | `(tactic| walk_at "d") => `(tactic| repeat (first | walk_at "e1" | walk_at "s1" | walk_at "g1" | ((with_reducible refine x_putL ?_ ?_); · rfl) | ((with_reducible refine x_szL ?_ ?_); · rfl) | dsimp only [List.set_cons_succ, List.set_cons_zero]))
local macro_rules | `(tactic| walk_at "i") => `(tactic| repeat (first | walk_at "e1" | walk_at "s1" | walk_at "g1" | ((with_reducible refine x_putL ?_ ?_); · rfl) | ((with_reducible refine x_szL ?_ ?_); · rfl) | ((with_reducible refine x_iteT2 ?_ ?_); · rfl) | ((with_reducible refine x_iteF2 ?_ ?_); · rfl) | dsimp only [List.set_cons_succ, List.set_cons_zero]))
theorem bag_below {n : Nat} {d : Dat} (h : IsBag d) : below n d := by
  obtain ⟨ns, i, r, m, c, rfl, _⟩ := h
  simp only [below, belows, true_and, and_true]
  exact below_ints ns
theorem drawn_below {S : Store} {d x : Dat} {xs : List Dat} {j : Nat} (h : drawn S d xs) (hS : belows S.length S) (hd : below S.length d) (hx : xs[j]? = some x) : below S.length x := by
  rcases h with ⟨z, rfl, hl, rfl⟩ | ⟨hn, h⟩
  · rw [List.getElem?_map] at hx
    obtain ⟨c, _, rfl⟩ := Option.map_eq_some_iff.mp hx
    simp only [below]
  · have hm := List.mem_of_getElem? hx
    cases d with
    | lst ys => simp only [seqD, Option.some.injEq] at h; subst h; simp only [below] at hd; exact belows_mem hd hm
    | tup ys => simp only [seqD, Option.some.injEq] at h; subst h; simp only [below] at hd; exact belows_mem hd hm
    | cell m =>
      simp only [seqD] at h
      split at h
      · rename_i zs e
        injection h with h
        subst h
        have := belows_mem hS (List.mem_of_getElem? e)
        simp only [below] at this
        exact belows_mem this hm
      · cases h
    | _ => simp [seqD] at h
theorem drawn_len {S : Store} {d : Dat} {xs : List Dat} (h : drawn S d xs) {K : KE} (k : K (.int xs.length) S) : gLen [d] S K := by
  rcases h with ⟨z, rfl, hl, rfl⟩ | ⟨hn, h⟩
  · refine x_lenS hl ?_
    rw [List.length_map] at k
    exact k
  · refine x_lenL h k
theorem drawn_ix {S : Store} {d x : Dat} {xs : List Dat} (h : drawn S d xs) {k : Nat} (e : xs[k]? = some x) {K : KE} (q : K x S) : gIx d (.int k) S K := by
  have hk := (List.getElem?_eq_some_iff.mp e).1
  rcases h with ⟨z, rfl, hl, rfl⟩ | ⟨hn, h⟩
  · rw [List.getElem?_map] at e
    obtain ⟨c, e2, rfl⟩ := Option.map_eq_some_iff.mp e
    refine x_ixS hl (c := c) ?_ q
    unfold atI ixN
    rw [if_pos (Int.natCast_nonneg k), if_pos (by have := (List.getElem?_eq_some_iff.mp e2).1; omega)]
    exact e2
  · refine x_ixL h ?_ q
    unfold atI ixN
    rw [if_pos (Int.natCast_nonneg k), if_pos (by omega)]
    simpa using e
theorem r_law_of {KF : PySem.W.Frag} {ds S K X} (h : sp_law_of KF ds S K X) (hb : belows S.length ds) (hS : belows S.length S) : u_law_of KF (endsOf S K X) (startD ["_law_bag_here", "_law_some"] ds) S := by
  obtain ⟨b, d, xs, bag, rfl, hd, hd2, h0, hn, hbag, hB, k⟩ := h
  have hbl : b < S.length := (List.getElem?_eq_some_iff.mp hbag).1
  show u_law_of KF (endsOf S K X) [some (.cell b), some d] S
  unfold u_law_of
  walk_at "d"
  refine drawn_len hd ?_
  walk_at "d"
  refine ⟨b, _, bag, rfl, by omega, by omega, hbag, hB, fun j bag' hj hB' => ?_⟩
  obtain ⟨x, hx⟩ : ∃ x, xs[j]? = some x := ⟨xs[j]'(by omega), List.getElem?_eq_getElem (by omega)⟩
  refine drawn_ix (hd2 bag' hB') hx ?_
  refine x_rtE ?_
  refine exit_set0 hS ?_ ?_ (k j x bag' hx hB')
  · exact bag_below hB'
  · exact drawn_below hd hS (by simp only [belows] at hb; exact hb.2.1) hx
theorem cutV_int (ns : List Int) (l h : Option Int) : ∃ ms : List Int, cutV (ns.map V.int) l h = ms.map V.int ∧ ms.length ≤ ns.length := by
  unfold cutV
  refine ⟨(ns.drop (HT.sIx (ns.map V.int).length 0 l)).take (HT.sIx (ns.map V.int).length (ns.map V.int).length h - HT.sIx (ns.map V.int).length 0 l), ?_, ?_⟩
  · rw [List.map_take, List.map_drop]
  · rw [List.length_take, List.length_drop]; omega
theorem r_law_bag {KF : PySem.W.Frag} {ds S K X} (h : sp_law_bag KF ds S K X) (hb : belows S.length ds) (hS : belows S.length S) : u_law_bag KF (endsOf S K X) (startD ["_law_script", "_law_mixed", "_law_cell"] ds) S := by
  obtain ⟨ns, rfl, hl, k⟩ := h
  show u_law_bag KF (endsOf S K X) [some (.sq KF ns), none, none] S
  obtain ⟨ms, hms, hml⟩ := cutV_int ns none (some 63)
  unfold u_law_bag
  walk_at "d"
  refine x_for ?_
  walk_at "d"
  refine x_slQ ?_
  walk_at "d"
  refine ⟨ns, ms, rfl, hms, ms.map Dat.int, rfl, fun j dl1 S1 => S1 = S ∧ ∃ m x2, dl1 = [some (.sq KF ns), some (.int m), x2] ∧ 0 ≤ m ∧ m < 2147483629, ⟨rfl, 5632, none, rfl, by decide, by decide⟩, ?_, ?_⟩
  · rintro j d dl1 S2 hj ⟨rfl, m, x2, rfl, hm, hm2⟩
    rw [List.getElem?_map] at hj
    obtain ⟨c, _, rfl⟩ := Option.map_eq_some_iff.mp hj
    refine ⟨rfl, ?_⟩
    walk_at "d"
    refine x_mul (.inr ⟨by decide, by decide⟩) ?_
    walk_at "d"
    refine x_mod (by decide) ?_
    walk_at "d"
    refine x_mul (.inr ⟨by decide, by decide⟩) ?_
    walk_at "d"
    refine x_mod (by decide) ?_
    walk_at "d"
    exact .inl ⟨rfl, _, _, rfl, Int.emod_nonneg _ (by decide), Int.emod_lt_of_pos _ (by decide)⟩
  · rintro dl1 S2 ⟨rfl, m, x2, rfl, hm, hm2⟩
    refine ⟨rfl, ?_⟩
    walk_at "d"
    refine x_slQ ?_
    walk_at "d"
    refine ⟨ns, ms, rfl, hms, ?_⟩
    walk_at "d"
    refine x_list rfl ?_
    walk_at "d"
    refine x_rtE ?_
    have hB : IsBag (.lst [.lst (ms.map Dat.int), .int 0, .int 0, .int m, .int 0]) := ⟨ms, 0, 0, m, 0, rfl, by omega, by decide, by decide, hm, hm2⟩
    exact exit_new hS (bag_below hB) (k _ hB)
section
variable {S : Store} {K : KE} {b : Nat} {d p q r s t : Dat}
theorem x_ixB {xs : List Dat} {m : Int} (hb : b < S.length) (h : atI xs m = some d) (k : K d (S.set b (.lst xs))) : gIx (.cell b) (.int m) (S.set b (.lst xs)) K :=
  x_ixL (xs := xs) (by simp [seqD, hb]) h k
theorem x_set4 {KS : Store → Prop} (hb : b < S.length) (k : KS (S.set b (.lst [p, q, r, s, d]))) : gSetL (.cell b) (.int 4) d (S.set b (.lst [p, q, r, s, t])) KS :=
  x_setL (xs := [p, q, r, s, t]) (j := 4) (by simp [hb]) rfl (by rw [List.set_set]; exact k)
theorem x_set3 {KS : Store → Prop} (hb : b < S.length) (k : KS (S.set b (.lst [p, q, r, d, t]))) : gSetL (.cell b) (.int 3) d (S.set b (.lst [p, q, r, s, t])) KS :=
  x_setL (xs := [p, q, r, s, t]) (j := 3) (by simp [hb]) rfl (by rw [List.set_set]; exact k)
theorem x_set2 {KS : Store → Prop} (hb : b < S.length) (k : KS (S.set b (.lst [p, q, d, s, t]))) : gSetL (.cell b) (.int 2) d (S.set b (.lst [p, q, r, s, t])) KS :=
  x_setL (xs := [p, q, r, s, t]) (j := 2) (by simp [hb]) rfl (by rw [List.set_set]; exact k)
theorem x_set1 {KS : Store → Prop} (hb : b < S.length) (k : KS (S.set b (.lst [p, d, r, s, t]))) : gSetL (.cell b) (.int 1) d (S.set b (.lst [p, q, r, s, t])) KS :=
  x_setL (xs := [p, q, r, s, t]) (j := 1) (by simp [hb]) rfl (by rw [List.set_set]; exact k)
theorem set_self {S : Store} {b : Nat} {d : Dat} (h : S[b]? = some d) : S = S.set b d := by
  obtain ⟨hb, e⟩ := List.getElem?_eq_some_iff.mp h
  apply List.ext_getElem?
  intro i
  by_cases hi : b = i
  · subst hi; rw [h, List.getElem?_set_self hb]
  · rw [List.getElem?_set_ne hi]
end
theorem cmul_l {i j : Int} (h : 0 ≤ i) (h2 : i < 2147483629) : CMul i j := .inl ⟨Int.lt_of_lt_of_le (by decide) h, Int.lt_trans h2 (by decide)⟩
theorem exit_bag {S : Store} {K : KE} {b : Nat} {n j i' r' m' c' : Int} {ns : List Int} (hS : belows S.length S) (k : ∀ (k : Nat) (bag' : Dat), (k : Int) < n → IsBag bag' → K (Dat.int k) (List.set S b bag')) (hl : ns.length ≤ 63) (h0 : 0 < n) (hj : 0 ≤ j) (hjn : j < n) (hi' : 0 ≤ i') (hr' : 0 ≤ r') (hm' : 0 ≤ m') (hm2' : m' < 2147483629) :
    ExitTo S K (.int j) (S.set b (.lst [.lst (ns.map Dat.int), .int i', .int r', .int m', .int c'])) := by
  refine exit_set0 hS ?_ (by simp only [below]) ?_
  · simp only [below, belows, true_and, and_true]; exact below_ints ns
  · have := k j.toNat _ (by omega) ⟨ns, i', r', m', c', rfl, hl, hi', hr', hm', hm2'⟩
    rwa [Int.toNat_of_nonneg hj] at this
local macro_rules | `(tactic| walk_at "b") => `(tactic| repeat (first | walk_at "e1" | walk_at "s1" | walk_at "g1" | ((with_reducible refine x_mul ?_ ?_); · first | exact Or.inr ⟨by decide, by decide⟩ | exact cmul_l (by assumption) (by assumption)) | ((with_reducible refine x_mod ?_ ?_); · first | assumption | decide) | ((with_reducible refine x_fdiv ?_ ?_); · first | exact ⟨by decide, by decide⟩ | exact ⟨by assumption, by assumption⟩) | with_reducible refine x_ixB (by assumption) rfl ?_ | with_reducible refine x_set4 (by assumption) ?_ | with_reducible refine x_set3 (by assumption) ?_ | with_reducible refine x_set2 (by assumption) ?_ | with_reducible refine x_set1 (by assumption) ?_ | ((with_reducible refine x_putL ?_ ?_); · rfl) | ((with_reducible refine x_szL ?_ ?_); · rfl) | dsimp only [List.set_cons_succ, List.set_cons_zero]))
local macro_rules | `(tactic| walk_at "tail") => `(tactic| (
  refine x_ite (fun e9 => ?_) (fun e9 => ?_)
  · walk_at "b"
    refine x_rtE ?_
    refine exit_bag (by assumption) (by assumption) (by assumption) (by assumption) (Int.emod_nonneg _ (by omega)) (Int.emod_lt_of_pos _ (by assumption)) (by assumption) (Int.ediv_nonneg (by assumption) (by omega)) (by assumption) (by assumption)
  · walk_at "b"
    refine x_rtE ?_
    refine exit_bag (by assumption) (by assumption) (by assumption) (by assumption) (Int.emod_nonneg _ (by omega)) (Int.emod_lt_of_pos _ (by assumption)) (by assumption) (by assumption) (Int.emod_nonneg _ (by decide)) (Int.emod_lt_of_pos _ (by decide))))
theorem r_law_pull {KF : PySem.W.Frag} {ds S K X} (h : sp_law_pull KF ds S K X) (hb : belows S.length ds) (hS : belows S.length S) : u_law_pull KF (endsOf S K X) (startD ["_law_bag_here", "_law_sides", "_law_cell", "_law_digit", "_law_twice"] ds) S := by
  obtain ⟨b, n, bag, rfl, h0, hn, hbag, ⟨ns, i, r, m, c, rfl, hl, hi, hr, hm, hm2⟩, k⟩ := h
  have hbl : b < S.length := (List.getElem?_eq_some_iff.mp hbag).1
  have key : ∀ S1 : Store, S1 = S.set b (.lst [.lst (ns.map Dat.int), .int i, .int r, .int m, .int c]) → u_law_pull KF (endsOf S K X) [some (.cell b), some (.int n), none, none, none] S1 := by
    rintro S1 rfl
    unfold u_law_pull
    walk_at "b"
    refine x_ite (fun e => ?_) (fun e => ?_)
    · walk_at "b"
      refine x_lenL rfl ?_
      walk_at "b"
      refine x_ite (fun e2 => ?_) (fun e2 => ?_)
      · walk_at "b"
        have hin : i < ns.length := by simpa using of_decide_eq_true e2
        obtain ⟨q, hq⟩ : ∃ q, ns[i.toNat]? = some q := ⟨ns[i.toNat]'(by omega), List.getElem?_eq_getElem (by omega)⟩
        have hat : atI (ns.map Dat.int) i = some (.int q) := by
          unfold atI ixN
          rw [if_pos hi, if_pos (by simpa using hin)]
          rw [Option.bind_some, List.getElem?_map, hq]; rfl
        refine x_ixL (xs := ns.map Dat.int) (d := .int q) rfl hat ?_
        walk_at "b"
        refine x_pow (m := 10) (n := 18) ⟨by decide, by decide, by decide⟩ ?_
        walk_at "b"
        refine x_ite (fun e3 => ?_) (fun e3 => ?_)
        · walk_at "b"
          have hr2 : (0 : Int) ≤ (if q < 0 then -q else q) := by split <;> omega
          generalize (if q < 0 then -q else q) = r2 at hr2
          have hi2 : 0 ≤ i + 1 := by omega
          generalize i + 1 = i2 at hi2
          walk_at "tail"
        · walk_at "b"
          have hi2 : 0 ≤ i + 1 := by omega
          generalize i + 1 = i2 at hi2
          have hm3 := Int.emod_nonneg (m * 40692 + q % 1000003 * 613 + 11) (b := 2147483629) (by decide)
          have hm4 := Int.emod_lt_of_pos (m * 40692 + q % 1000003 * 613 + 11) (b := 2147483629) (by decide)
          generalize (m * 40692 + q % 1000003 * 613 + 11) % 2147483629 = m2 at hm3 hm4
          walk_at "b"
          walk_at "tail"
      · walk_at "b"
        walk_at "tail"
    · walk_at "b"
      walk_at "tail"
  exact key S (set_self hbag)
theorem lstD_cases {S : Store} {x : Dat} {xs : List Dat} (h : lstD S x = some xs) : x = .lst xs ∨ ∃ n, x = .cell n ∧ S[n]? = some (.lst xs) := by
  have e := lstD_view h
  cases x with
  | lst ys => left; simp only [view, Option.some.injEq, Dat.lst.injEq] at e; rw [e]
  | cell n => right; exact ⟨n, rfl, e⟩
  | tup ys => simp [view] at e
  | _ => simp [view] at e
theorem lstD_ty {S : Store} {x : Dat} {xs : List Dat} (h : lstD S x = some xs) : tyS S x = some "list" := by
  rcases lstD_cases h with rfl | ⟨n, rfl, e⟩
  · rfl
  · simp [tyS, e]
theorem lstD_seq {S : Store} {x : Dat} {xs : List Dat} (h : lstD S x = some xs) : seqD S x = some xs := by
  rcases lstD_cases h with rfl | ⟨n, rfl, e⟩
  · rfl
  · simp [seqD, e]
theorem lstD_draw {S : Store} {x : Dat} {xs : List Dat} (h : lstD S x = some xs) : drawD S x = some xs := by
  rcases lstD_cases h with rfl | ⟨n, rfl, e⟩
  · rfl
  · simp [drawD, seqD, e]
theorem sp_same_of {KF : PySem.W.Frag} {n : Nat} {a b : Dat} {S : Store} {Kt : KE} {X : KX} (h : SameD S n a b) (k : Kt (.bl true) S) : sp_law_same KF n [a, b] S Kt X := by
  cases n with
  | zero => exact h.elim
  | succ n => exact ⟨a, b, rfl, h, k⟩
theorem same_lists {KF : PySem.W.Frag} {n : Nat} {S : Store} {K : KE} {X : KX} {x y : Dat} {xs ys : List Dat} (ex : seqD S x = some xs) (ey : seqD S y = some ys) (dx : drawD S x = some xs) (dy : drawD S y = some ys) (hl : xs.length = ys.length) (hs : xs.length ≤ sizeLine) (h : ∀ (i : Nat) a b, xs[i]? = some a → ys[i]? = some b → SameD S n a b)
    (hbt : ∀ b : Bool, below S.length (.bl b)) (k : K (.bl true) S) : (uRet (uAndV (uOp gEq (uCB gLen (uCons (uVar 0) uNil)) (uCB gLen (uCons (uVar 1) uNil))) (uCB (gBools fun bs => bs.all id) (uCons (uLc (uZ (uCons (uVar 0) (uCons (uVar 1) uNil))) [2, 3] (uGTup 2 (uGCons (uName 2) (uGCons (uName 3) uGNil))) uYes (uCall (sp_law_same KF n) [] (uCons (uVar 2) (uCons (uVar 3) uNil)))) uNil)))) (endsOf S K X) [some x, some y, none, none] S := by
  walk_at "i"
  refine x_lenL ex ?_
  walk_at "i"
  refine x_lenL ey ?_
  walk_at "i"
  refine x_iteT2 (by simp [hl]) ?_
  walk_at "i"
  refine ⟨xs, ys, dx, dy, ?_⟩
  refine lc_map (fun _ => .bl true) ⟨dx, dy⟩ (by unfold pairs; rw [List.length_zipWith]; omega) (fun j d Kt Kf hj hk => ?_) ?_
  · unfold pairs at hj
    rw [List.getElem?_zipWith] at hj
    obtain ⟨a, b, ea, eb, rfl⟩ : ∃ a b, xs[j]? = some a ∧ ys[j]? = some b ∧ d = .tup [a, b] := by
      cases ea : xs[j]? with
      | none => simp [ea] at hj
      | some a =>
        cases eb : ys[j]? with
        | none => simp [ea, eb] at hj
        | some b => simp [ea, eb] at hj; exact ⟨a, b, rfl, rfl, hj.symm⟩
    dsimp only [wipeD, List.set_cons_succ, List.set_cons_zero]
    walk_at "i"
    exact sp_same_of (h j a b ea eb) hk
  · walk_at "i"
    refine x_bools (bs := (pairs xs ys).map fun _ => true) (by simp [lstD, view, List.map_map, Function.comp_def]) ?_
    refine x_rtE ?_
    have e : ((pairs xs ys).map fun _ => true).all id = true := by simp
    show ExitTo S K (.bl (((pairs xs ys).map fun _ => true).all id)) S
    rw [e]
    exact exit_here (by simp only [below]) k
theorem r_law_same {KF : PySem.W.Frag} {n : Nat} {ds S K X} (h : sp_law_same KF (n + 1) ds S K X) (hb : belows S.length ds) (hS : belows S.length S) : u_law_same KF (sp_law_same KF n) (endsOf S K X) (startD ["_law_found", "_law_due", "_law_a", "_law_b"] ds) S := by
  obtain ⟨x, y, rfl, h, k⟩ := h
  show u_law_same KF (sp_law_same KF n) (endsOf S K X) [some x, some y, none, none] S
  have fin : (endsOf S K X).rt (.bl true) S := exit_here (by simp only [below]) k
  unfold u_law_same
  rcases h with ⟨rfl, rfl⟩ | ⟨b, rfl, rfl⟩ | ⟨b, rfl, rfl⟩ | ⟨b, rfl, rfl⟩ | ⟨xs, ys, rfl, rfl, hl, hs, h⟩ | ⟨xs, ys, ex, ey, hl, hs, h⟩
  · walk_at "i"
    exact fin
  · walk_at "i"
    refine x_rtE ?_
    rw [show decide (b = b) = true from decide_eq_true rfl]
    exact fin
  · walk_at "i"
    refine x_rtE ?_
    rw [show decide (b = b) = true from decide_eq_true rfl]
    exact fin
  · walk_at "i"
    refine x_rtE ?_
    rw [show decide (b = b) = true from decide_eq_true rfl]
    exact fin
  · walk_at "i"
    exact same_lists (x := .tup xs) (y := .tup ys) rfl rfl rfl rfl hl hs h (fun b => by simp only [below]) k
  · walk_at "i"
    refine x_isi2 (lstD_ty ey) (by decide) (by decide) ?_
    walk_at "i"
    refine x_isi (lstD_ty ex) (by decide) ?_
    walk_at "i"
    refine x_isi (lstD_ty ey) (by decide) ?_
    walk_at "i"
    refine x_isi (lstD_ty ex) (by decide) ?_
    walk_at "i"
    refine x_isi (lstD_ty ey) (by decide) ?_
    walk_at "i"
    exact same_lists (lstD_seq ex) (lstD_seq ey) (lstD_draw ex) (lstD_draw ey) hl hs h (fun b => by simp only [below]) k
end DL
/-! SL: promises of the small things: numbers, primes, letters. -/
namespace DL
open PySem L2
/-- ascending, each once -/
def ascL : List Nat → Bool
  | a :: b :: r => decide (a < b) && ascL (b :: r)
  | _ => true
abbrev abc : Str := "abcdefghijklmnopqrstuvwxyz"
def sp_ascends (K : PySem.W.Frag) : Spec := fun ds S Kt _ => (∃ z : Str, ds = [.str z] ∧ z.length ≤ 1000000 ∧ Kt (.bl (ascL z.cps.toList)) S) ∨ ∃ ns : List Nat, ds = [.tup (ns.map fun (n : Nat) => Dat.int (n : Int))] ∧ ns.length ≤ 1000000 ∧ Kt (.bl (ascL ns)) S
def isAlpha (z : Str) : Bool := decide (1 ≤ z.cps.toList.length) && decide (z.cps.toList.length ≤ 4) && (z.cps.toList.all (fun c => decide (c ∈ abc.cps.toList)) && ascL z.cps.toList)
def notStr (S : Store) (d : Dat) : Prop := ∃ t, tyS S d = some t ∧ t ≠ "str" ∧ t ∈ tyNames
def sp_is_alphabet (K : PySem.W.Frag) : Spec := fun ds S Kt _ => (∃ z : Str, ds = [.str z] ∧ z.length ≤ 1000000 ∧ Kt (.bl (isAlpha z)) S) ∨ ∃ d, ds = [d] ∧ notStr S d ∧ Kt (.bl false) S
def isWord (a z : Str) : Bool := z.cps.toList.all fun c => decide (c ∈ a.cps.toList)
def sp_is_word (K : PySem.W.Frag) : Spec := fun ds S Kt _ => ∃ a : Str, (∃ z : Str, ds = [.str a, .str z] ∧ z.length ≤ 1000000 ∧ Kt (.bl (isWord a z)) S) ∨ ∃ d, ds = [.str a, d] ∧ notStr S d ∧ Kt (.bl false) S
/-- no number: of another kind, or a truth value -/
def notInt (S : Store) (d : Dat) : Prop := ∃ t, tyS S d = some t ∧ t ≠ "int" ∧ t ∈ tyNames
def sp_is_number (K : PySem.W.Frag) : Spec := fun ds S Kt _ => (∃ v l h : Int, ds = [.int v, .int l, .int h] ∧ Kt (.bl (decide (l ≤ v) && decide (v ≤ h))) S) ∨ (∃ v l : Int, ds = [.int v, .int l, .non] ∧ Kt (.bl (decide (l ≤ v))) S) ∨ ∃ d, ∃ l : Int, ∃ m, ds = [d, .int l, m] ∧ notInt S d ∧ Kt (.bl false) S
/-- no number parts p -/
def isPrime (p : Int) : Prop := 2 ≤ p ∧ ∀ d : Int, 2 ≤ d → d * d ≤ p → p % d ≠ 0
open Classical in
noncomputable def primeB (p : Int) : Bool := decide (isPrime p)
def sp_is_prime (K : PySem.W.Frag) : Spec := fun ds S Kt _ => (∃ v m : Int, ds = [.int v, .int m] ∧ m < 1000000 ∧ Kt (.bl (decide (v ≤ m) && primeB v)) S) ∨ ∃ d, ∃ m : Int, ds = [d, .int m] ∧ notInt S d ∧ Kt (.bl false) S
theorem len_ascends {K : PySem.W.Frag} {ds S Kt X} (h : sp_ascends K ds S Kt X) : ds.length = 1 := by rcases h with ⟨_, rfl, _⟩ | ⟨_, rfl, _⟩ <;> rfl
theorem len_is_alphabet {K : PySem.W.Frag} {ds S Kt X} (h : sp_is_alphabet K ds S Kt X) : ds.length = 1 := by rcases h with ⟨_, rfl, _⟩ | ⟨_, rfl, _⟩ <;> rfl
theorem len_is_word {K : PySem.W.Frag} {ds S Kt X} (h : sp_is_word K ds S Kt X) : ds.length = 2 := by obtain ⟨_, ⟨_, rfl, _⟩ | ⟨_, rfl, _⟩⟩ := h <;> rfl
theorem len_is_number {K : PySem.W.Frag} {ds S Kt X} (h : sp_is_number K ds S Kt X) : ds.length = 3 := by rcases h with ⟨_, _, _, rfl, _⟩ | ⟨_, _, rfl, _⟩ | ⟨_, _, _, rfl, _⟩ <;> rfl
theorem len_is_prime {K : PySem.W.Frag} {ds S Kt X} (h : sp_is_prime K ds S Kt X) : ds.length = 2 := by rcases h with ⟨_, _, rfl, _⟩ | ⟨_, _, rfl, _⟩ <;> rfl
def u_is_number (K : PySem.W.Frag) : US :=
  (uSeq (uIfS (uOr (uNot (uTru (uCB (gIsi K) (uCons (uVar 0) (uCons (uC (.raw (.ty "int"))) uNil))))) (uOr (uTru (uCB (gIsi K) (uCons (uVar 0) (uCons (uC (.raw (.ty "bool"))) uNil)))) (uTest (uOp gLt (uVar 0) (uVar 1))))) (uRet (uC (.bl false))) uNext)
    (uRet (uOrV (uOp (gIs id) (uVar 2) (uC .non)) (uOp gLe (uVar 0) (uVar 2)))))
def u_is_prime (K : PySem.W.Frag) : US :=
  (uSeq (uIfS (uNot (uTru (uCall (sp_is_number K) [] (uCons (uVar 0) (uCons (uC (.int 2)) (uCons (uVar 1) uNil)))))) (uRet (uC (.bl false))) uNext)
    (uSeq (uSet 2 (uC (.int 2)))
    (uSeq (uWhile (uTest (uOp gLe (uOp gMul (uVar 2) (uVar 2)) (uVar 0))) (uSeq (uIfS (uTest (uOp gEq (uOp gMod (uVar 0) (uVar 2)) (uC (.int 0)))) (uRet (uC (.bl false))) uNext)
    (uSet 2 (uOp gAdd (uVar 2) (uC (.int 1))))))
    (uRet (uC (.bl true))))))
def u_ascends (K : PySem.W.Frag) : US :=
  (uRet (uCB (gBools fun bs => bs.all id) (uCons (uLc (uZ (uCons (uVar 0) (uCons (uSl (uVar 0) (uPart (uC (.int 1))) uNo) uNil))) [1, 2] (uGTup 2 (uGCons (uName 1) (uGCons (uName 2) uGNil))) uYes (uOp gLt (uVar 1) (uVar 2))) uNil)))
def u_is_alphabet (K : PySem.W.Frag) : US :=
  (uSeq (uIfS (uOr (uNot (uTru (uCB (gIsi K) (uCons (uVar 0) (uCons (uC (.raw (.ty "str"))) uNil))))) (uNot (uTest (uChain gLe gLe (uC (.int 1)) (uCB gLen (uCons (uVar 0) uNil)) (uC (.int 4)))))) (uRet (uC (.bl false))) uNext)
    (uRet (uAndV (uCB (gBools fun bs => bs.all id) (uCons (uLc (uSeqI (uVar 0)) [1] (uName 1) uYes (uOp (gIn id) (uVar 1) (uC (.str "abcdefghijklmnopqrstuvwxyz")))) uNil)) (uCall (sp_ascends K) [] (uCons (uVar 0) uNil)))))
def u_is_word (K : PySem.W.Frag) : US :=
  (uRet (uAndV (uCB (gIsi K) (uCons (uVar 1) (uCons (uC (.raw (.ty "str"))) uNil))) (uCB (gBools fun bs => bs.all id) (uCons (uLc (uSeqI (uVar 1)) [2] (uName 2) uYes (uOp (gIn id) (uVar 2) (uVar 0))) uNil))))
end DL
namespace DL
open PySem L2
local macro_rules | `(tactic| walk_at "e1") => `(tactic| with_reducible first
  | refine x_var rfl ?_ | refine x_c ?_ | refine x_op ?_ | refine x_un ?_ | refine x_nil ?_ | refine x_cons ?_ | refine x_tup ?_ | refine x_lst ?_ | refine x_lstC ?_ | refine x_cb ?_ | refine x_call ?_ | refine x_if ?_
  | refine x_test ?_ | refine x_and ?_ | refine x_or ?_ | refine x_not ?_ | refine x_tru ?_ | refine x_andV ?_ | refine x_orV ?_ | refine x_notV ?_ | refine x_yes ?_ | refine x_chain ?_
  | refine x_bm ?_ | refine x_bm0 ?_ | refine x_part ?_ | refine x_no ?_ | refine x_sl ?_ | refine x_seqI ?_ | refine x_r1 ?_ | refine x_r2 ?_ | refine x_z ?_ | refine x_lc ?_ | refine x_lcC ?_ | refine x_lcW ?_ | refine x_fld ?_ | refine x_meth ?_ | refine x_prop ?_ | refine x_make ?_ | refine x_en ?_)
local macro_rules | `(tactic| walk_at "s1") => `(tactic| with_reducible first
  | refine x_seq ?_ | refine x_next ?_ | refine x_break ?_ | refine x_cont ?_ | refine x_drop ?_ | refine x_ret ?_ | refine x_retN ?_ | refine x_ifS ?_ | refine x_set ?_ | refine x_asg ?_ | refine x_par ?_ | refine x_gsub ?_ | refine x_gnil ?_ | refine x_gcons ?_ | refine x_setF ?_ | refine x_for ?_)
local macro_rules | `(tactic| walk_at "g1") => `(tactic| first
  | with_reducible refine x_iteT ?_ | with_reducible refine x_iteF ?_ | with_reducible refine x_tN ?_ | with_reducible refine x_tB ?_ | with_reducible refine x_tI ?_ | with_reducible refine x_tT ?_ | with_reducible refine x_tL ?_
  | with_reducible refine x_addI ?_ | with_reducible refine x_sub ?_ | with_reducible refine x_ltI ?_ | with_reducible refine x_leI ?_ | with_reducible refine x_gtI ?_ | with_reducible refine x_geI ?_ | with_reducible refine x_ltS ?_ | with_reducible refine x_leS ?_ | with_reducible refine x_gtS ?_ | with_reducible refine x_geS ?_
  | with_reducible refine x_eqI ?_ | with_reducible refine x_eqS ?_ | with_reducible refine x_eqB ?_ | with_reducible refine x_neI ?_ | with_reducible refine x_neS ?_ | with_reducible refine x_neB ?_ | with_reducible refine x_neg ?_
  | with_reducible refine x_inS ?_ | with_reducible refine x_notinS ?_ | with_reducible refine x_intI ?_ | with_reducible refine x_intB ?_ | with_reducible refine x_abs ?_ | with_reducible refine x_slL ?_ | with_reducible refine x_slT ?_ | with_reducible refine x_min2 ?_ | with_reducible refine x_max2 ?_
  | ((with_reducible refine x_is ?_ ?_); · rfl) | ((with_reducible refine x_isnot ?_ ?_); · rfl) | ((with_reducible refine x_isiD ?_ ?_ ?_); (next => rfl); (next => decide)) | ((with_reducible refine x_isiD2 ?_ ?_ ?_ ?_); (next => rfl); (next => decide); (next => decide)) | ((with_reducible refine x_name ?_ ?_); · exact of_decide_eq_true rfl) | ((with_reducible refine x_gtup ?_ ?_); · rfl))
local macro_rules | `(tactic| walk_at "d") => `(tactic| repeat (first | walk_at "e1" | walk_at "s1" | walk_at "g1" | ((with_reducible refine x_putL ?_ ?_); · rfl) | ((with_reducible refine x_szL ?_ ?_); · rfl) | dsimp only [List.set_cons_succ, List.set_cons_zero]))
local macro_rules | `(tactic| walk_at "i") => `(tactic| repeat (first | walk_at "e1" | walk_at "s1" | walk_at "g1" | ((with_reducible refine x_putL ?_ ?_); · rfl) | ((with_reducible refine x_szL ?_ ?_); · rfl) | ((with_reducible refine x_iteT2 ?_ ?_); · rfl) | ((with_reducible refine x_iteF2 ?_ ?_); · rfl) | dsimp only [List.set_cons_succ, List.set_cons_zero]))
theorem cps_len (z : Str) : z.cps.toList.length = z.length := by first | rfl | simp [Str.length]
theorem ascL_zip : ∀ l : List Nat, (List.zipWith (fun a b => decide (a < b)) l (l.drop 1)).all id = ascL l
  | [] => rfl
  | [a] => rfl
  | a :: b :: r => by
    have := ascL_zip (b :: r)
    simp only [List.drop_succ_cons, List.drop_zero, List.zipWith_cons_cons, List.all_cons, id_eq, ascL] at this ⊢
    rw [this]
theorem ltS_sgn (a b : Nat) : ltS (sgn a) (sgn b) = decide (a < b) := by
  unfold ltS sgn
  simp [List.cons_lt_cons_iff]
theorem asc_zip (l : List Nat) : (((l.zip (l.drop 1)).map fun p => decide (p.1 < p.2)).all id) = ascL l := by
  rw [← ascL_zip l]
  congr 1
  generalize l.drop 1 = m
  induction l generalizing m with
  | nil => simp
  | cons a l ih => cases m with
    | nil => simp
    | cons b m => simp [ih]
theorem cutS_from (z : Str) (i : Nat) : (cutS z (some (i : Int)) none).cps.toList = z.cps.toList.drop i := by
  have := cut_from z.cps.toList i
  rw [cps_len] at this
  exact this
theorem x_allB {α : Type} {xs : List α} {p : α → Bool} {S : Store} {K : KE} (k : K (.bl (xs.all p)) S) : gBools (fun bs => bs.all id) [.lst (xs.map fun a => .bl (p a))] S K :=
  x_bools (bs := xs.map p) (by simp [lstD, view]) (by rw [List.all_map]; exact k)
theorem r_ascends {KF : PySem.W.Frag} {ds S K X} (h : sp_ascends KF ds S K X) (hb : belows S.length ds) (hS : belows S.length S) : u_ascends KF (endsOf S K X) (startD ["letters", "one", "other"] ds) S := by
  have szl : sizeLine = 16777216 := rfl
  rcases h with ⟨z, rfl, hz, k⟩ | ⟨ns, rfl, hz, k⟩
  · show u_ascends KF (endsOf S K X) [some (.str z), none, none] S
    unfold u_ascends
    walk_at "i"
    refine x_slS (by omega) ?_
    walk_at "i"
    refine ⟨_, _, rfl, rfl, ?_⟩
    rw [show (1 : Int) = ((1 : Nat) : Int) from rfl, cutS_from, pairs_map]
    refine' lc_M _ _ ⟨rfl, by show some _ = some _; rw [cutS_from]⟩ (by rw [List.length_zip, List.length_drop, cps_len]; omega) ?hs ?k
    case hs =>
      intro a _ Kt Kf hk
      dsimp only [wipeD, List.set_cons_succ, List.set_cons_zero]
      walk_at "i"
      rw [ltS_sgn]
      exact hk
    case k =>
      walk_at "i"
      refine x_bools (bs := (z.cps.toList.zip (z.cps.toList.drop 1)).map fun p => decide (p.1 < p.2)) (by simp [lstD, view]) ?_
      refine x_rtE ?_
      rw [asc_zip]
      exact exit_here (by simp only [below]) k
  · show u_ascends KF (endsOf S K X) [some (.tup (ns.map fun (n : Nat) => Dat.int (n : Int))), none, none] S
    unfold u_ascends
    walk_at "i"
    refine ⟨_, _, rfl, rfl, ?_⟩
    rw [cutD_map, show (1 : Int) = ((1 : Nat) : Int) from rfl, cut_from, pairs_map]
    refine' lc_M _ _ ⟨rfl, rfl⟩ (by rw [List.length_zip, List.length_drop]; omega) ?hs ?k
    case hs =>
      intro a _ Kt Kf hk
      dsimp only [wipeD, List.set_cons_succ, List.set_cons_zero]
      walk_at "i"
      have e : decide ((a.1 : Int) < (a.2 : Int)) = decide (a.1 < a.2) := decide_eq_decide.mpr (by omega)
      rw [e]
      exact hk
    case k =>
      walk_at "i"
      refine x_bools (bs := (ns.zip (ns.drop 1)).map fun p => decide (p.1 < p.2)) (by simp [lstD, view]) ?_
      refine x_rtE ?_
      rw [asc_zip]
      exact exit_here (by simp only [below]) k
/-- all signs of z lie in a -/
theorem all_signs {z a : Str} {dl : Env'} {S : Store} {K : KE} {X : KX} {i j : Nat} {ua : UE} (hz : z.length ≤ 1000000) (hi : dl[i]? = some (some (.str z))) (hj : j < dl.length) (ha : ∀ (c : Dat) (Kt : KE), Kt (.str a) S → ua ((dl.set j none).set j (some c)) S Kt XF0)
    (k : K (.bl (z.cps.toList.all fun c => decide (c ∈ a.cps.toList))) S) :
    uCB (gBools fun bs => bs.all id) (uCons (uLc (uSeqI (uVar i)) [j] (uName j) uYes (uOp (gIn id) (uVar j) ua)) uNil) dl S K X := by
  have szl : sizeLine = 16777216 := rfl
  refine x_cb (x_cons (x_lc (x_lcW (x_seqI (x_var hi ⟨_, rfl, ?_⟩)))))
  refine' lc_M z.cps.toList _ rfl (by rw [cps_len]; omega) ?hs ?k
  case hs =>
    intro c _ Kt Kf hk
    refine x_name (by simpa [wipeD] using hj) ?_
    refine x_yes (x_iteT (x_op ?_))
    refine x_var (d := .str (sgn c)) (by rw [List.getElem?_set_self (by simpa [wipeD] using hj)]) ?_
    refine ha _ _ ?_
    exact x_inS hk
  case k => exact x_nil (x_allB k)
theorem notStr_isB {t : String} (h : t ≠ "str") : isB t "str" = false := by simp [isB, h]
theorem r_is_word {KF : PySem.W.Frag} {ds S K X} (h : sp_is_word KF ds S K X) (hb : belows S.length ds) (hS : belows S.length S) : u_is_word KF (endsOf S K X) (startD ["alphabet", "value", "sign"] ds) S := by
  obtain ⟨a, ⟨z, rfl, hz, k⟩ | ⟨d, rfl, ⟨t, ht, htn, hm⟩, k⟩⟩ := h
  · show u_is_word KF (endsOf S K X) [some (.str a), some (.str z), none] S
    unfold u_is_word
    refine x_ret (x_andV (x_cb (x_cons (x_var rfl (x_cons (x_c (x_nil ?_)))))))
    refine x_isi (t := "str") rfl (by decide) ?_
    refine x_tB (x_iteT2 rfl ?_)
    refine all_signs (a := a) hz rfl (of_decide_eq_true rfl) (fun c Kt h => x_var rfl h) ?_
    exact exit_here (by simp only [below]) k
  · show u_is_word KF (endsOf S K X) [some (.str a), some d, none] S
    unfold u_is_word
    walk_at "i"
    refine x_isi ht (by decide) ?_
    rw [notStr_isB htn]
    walk_at "i"
    exact exit_here (by simp only [below]) k
theorem r_is_alphabet {KF : PySem.W.Frag} {ds S K X} (h : sp_is_alphabet KF ds S K X) (hb : belows S.length ds) (hS : belows S.length S) : u_is_alphabet KF (endsOf S K X) (startD ["value", "sign"] ds) S := by
  rcases h with ⟨z, rfl, hz, k⟩ | ⟨d, rfl, ⟨t, ht, htn, hm⟩, k⟩
  · show u_is_alphabet KF (endsOf S K X) [some (.str z), none] S
    have hz2 := cps_len z
    have hsz : z.length ≤ sizeLine := Nat.le_trans hz (by decide)
    have fin : ∀ b : Bool, b = isAlpha z → (endsOf S K X).rt (.bl b) S := fun b e => by subst e; exact exit_here (by simp only [below]) k
    unfold u_is_alphabet
    walk_at "i"
    refine x_lenS hsz ?_
    walk_at "i"
    refine x_ite (fun e1 => ?_) (fun e1 => ?_)
    · have h1 := of_decide_eq_true e1
      refine x_ite (fun e2 => ?_) (fun e2 => ?_)
      · have h2 : ¬ ((z.length : Int) ≤ 4) := by simpa using e2
        walk_at "i"
        refine fin false ?_
        have : ¬ (z.cps.toList.length ≤ 4) := by omega
        simp only [isAlpha, this, decide_false, Bool.and_false, Bool.false_and]
      · have h2 : ((z.length : Int) ≤ 4) := by simpa using e2
        refine x_next ?_
        dsimp only
        refine x_ret (x_andV ?_)
        refine all_signs (a := abc) hz rfl (of_decide_eq_true rfl) (fun c Kt h => x_c h) ?_
        refine x_tB ?_
        have hA : isAlpha z = ((z.cps.toList.all fun c => decide (c ∈ abc.cps.toList)) && ascL z.cps.toList) := by
          have h3 : 1 ≤ z.cps.toList.length := by omega
          have h4 : z.cps.toList.length ≤ 4 := by omega
          simp only [isAlpha, h3, h4, decide_true, Bool.true_and]
        refine x_ite (fun e3 => ?_) (fun e3 => ?_)
        · walk_at "i"
          refine .inl ⟨z, rfl, hz, fin _ ?_⟩
          rw [hA, e3, Bool.true_and]
        · refine fin _ ?_
          rw [hA, e3, Bool.false_and]
    · walk_at "i"
      refine fin false ?_
      have h1 : ¬ ((1 : Int) ≤ (z.length : Int)) := of_decide_eq_false e1
      have : ¬ (1 ≤ z.cps.toList.length) := by omega
      simp only [isAlpha, this, decide_false, Bool.and_false, Bool.false_and]
  · show u_is_alphabet KF (endsOf S K X) [some d, none] S
    unfold u_is_alphabet
    walk_at "i"
    refine x_isi ht (by decide) ?_
    rw [notStr_isB htn]
    walk_at "i"
    exact exit_here (by simp only [below]) k
theorem r_is_number {KF : PySem.W.Frag} {ds S K X} (h : sp_is_number KF ds S K X) (hb : belows S.length ds) (hS : belows S.length S) : u_is_number KF (endsOf S K X) (startD ["value", "least", "most"] ds) S := by
  have fin : ∀ b c : Bool, b = c → K (.bl c) S → (endsOf S K X).rt (.bl b) S := fun b c e k => by subst e; exact exit_here (by simp only [below]) k
  rcases h with ⟨v, l, h, rfl, k⟩ | ⟨v, l, rfl, k⟩ | ⟨d, l, m, rfl, ⟨t, ht, hn, hm⟩, k⟩
  · show u_is_number KF (endsOf S K X) [some (.int v), some (.int l), some (.int h)] S
    unfold u_is_number
    walk_at "i"
    refine x_ite (fun e => ?_) (fun e => ?_)
    · walk_at "i"
      have := of_decide_eq_true e
      exact fin _ _ (by rw [decide_eq_false (show ¬ l ≤ v by omega)]; rfl) k
    · walk_at "i"
      have := of_decide_eq_false e
      exact fin _ _ (by rw [decide_eq_true (show l ≤ v by omega)]; rfl) k
  · show u_is_number KF (endsOf S K X) [some (.int v), some (.int l), some .non] S
    unfold u_is_number
    walk_at "i"
    refine x_ite (fun e => ?_) (fun e => ?_)
    · walk_at "i"
      have := of_decide_eq_true e
      exact fin _ _ (by rw [decide_eq_false (show ¬ l ≤ v by omega)]) k
    · walk_at "i"
      have := of_decide_eq_false e
      exact fin _ _ (by rw [decide_eq_true (show l ≤ v by omega)]; rfl) k
  · show u_is_number KF (endsOf S K X) [some d, some (.int l), some m] S
    unfold u_is_number
    walk_at "i"
    refine x_isi ht (by decide) ?_
    cases e : isB t "int" with
    | false =>
      walk_at "i"
      exact fin _ _ rfl k
    | true =>
      have e2 : t = "bool" := by
        simp only [isB, Bool.or_eq_true, Bool.and_eq_true, beq_iff_eq] at e
        rcases e with e | e
        · exact absurd e hn
        · exact e.1
      subst e2
      walk_at "i"
      refine x_isi ht (by decide) ?_
      walk_at "i"
      exact fin _ _ rfl k
theorem r_is_prime {KF : PySem.W.Frag} {ds S K X} (h : sp_is_prime KF ds S K X) (hb : belows S.length ds) (hS : belows S.length S) : u_is_prime KF (endsOf S K X) (startD ["value", "most", "divisor"] ds) S := by
  have fin : ∀ b c : Bool, b = c → K (.bl c) S → (endsOf S K X).rt (.bl b) S := fun b c e k => by subst e; exact exit_here (by simp only [below]) k
  rcases h with ⟨v, m, rfl, hm, k⟩ | ⟨d, m, rfl, hn, k⟩
  · show u_is_prime KF (endsOf S K X) [some (.int v), some (.int m), none] S
    unfold u_is_prime
    walk_at "i"
    refine .inl ⟨v, 2, m, rfl, ?_⟩
    walk_at "i"
    refine x_ite (fun e => ?_) (fun e => ?_)
    · walk_at "i"
      refine fin _ _ ?_ k
      simp only [Bool.not_eq_true', Bool.and_eq_false_iff, decide_eq_false_iff_not] at e
      rcases e with e | e
      · have : primeB v = false := by unfold primeB; simp only [decide_eq_false_iff_not]; exact fun z => e z.1
        rw [this, Bool.and_false]
      · rw [decide_eq_false e, Bool.false_and]
    · simp only [Bool.not_eq_false', Bool.and_eq_true, decide_eq_true_eq] at e
      walk_at "i"
      refine ⟨fun n dl1 S1 => S1 = S ∧ ∃ q : Int, dl1 = [some (.int v), some (.int m), some (.int q)] ∧ 2 ≤ q ∧ q ≤ 1001 ∧ n = (v + 2 - q).toNat ∧ ∀ d : Int, 2 ≤ d → d < q → d * d ≤ v → v % d ≠ 0, ⟨_, rfl, 2, rfl, by omega, by omega, rfl, fun d h1 h2 => by omega⟩, ?_⟩
      rintro n dl1 S1 ⟨rfl, q, rfl, hq, hq2, rfl, hd⟩
      walk_at "i"
      refine x_mul (.inl ⟨by omega, by omega⟩) ?_
      walk_at "i"
      refine x_ite (fun e2 => ?_) (fun e2 => ?_)
      · have e2 := of_decide_eq_true e2
        walk_at "i"
        refine x_mod (by omega) ?_
        walk_at "i"
        refine x_ite (fun e3 => ?_) (fun e3 => ?_)
        · have e3 := of_decide_eq_true e3
          walk_at "i"
          refine fin _ _ ?_ k
          have : primeB v = false := by unfold primeB; simp only [decide_eq_false_iff_not]; exact fun z => z.2 q hq e2 e3
          rw [this, Bool.and_false]
        · have e3 := of_decide_eq_false e3
          walk_at "i"
          have hqv : q < v := by
            have : q * 2 ≤ q * q := Int.mul_le_mul_of_nonneg_left hq (by omega)
            omega
          have hq3 : q ≤ 1000 := by
            by_cases z : q ≤ 1000
            · exact z
            · have : 1001 * 1001 ≤ q * q := Int.mul_le_mul (by omega) (by omega) (by omega) (by omega)
              omega
          refine .inl ⟨(v + 2 - (q + 1)).toNat, by omega, rfl, q + 1, rfl, by omega, by omega, rfl, fun d h1 h2 h3 => ?_⟩
          by_cases z : d = q
          · subst z; exact e3
          · exact hd d h1 (by omega) h3
      · have e2 := of_decide_eq_false e2
        walk_at "i"
        refine fin _ _ ?_ k
        have : primeB v = true := by
          unfold primeB
          simp only [decide_eq_true_eq]
          refine ⟨e.1, fun d h1 h2 => ?_⟩
          by_cases z : d < q
          · exact hd d h1 z h2
          · have : q * q ≤ d * d := Int.mul_le_mul (by omega) (by omega) (by omega) (by omega)
            omega
        rw [this, decide_eq_true e.2]
        rfl
  · show u_is_prime KF (endsOf S K X) [some d, some (.int m), none] S
    unfold u_is_prime
    walk_at "i"
    refine .inr (.inr ⟨d, 2, .int m, rfl, hn, ?_⟩)
    walk_at "i"
    exact fin _ _ rfl k
end DL
/-! SA: promises: alphabets needed, drawn signs, drawn texts. -/
namespace DL
open PySem L2
abbrev natD (n : Nat) : Dat := .int (n : Int)
def sp_need_alphabet (K : PySem.W.Frag) : Spec := fun ds S Kt X => ∃ d, ds = [d] ∧ ((∃ z : Str, d = .str z ∧ z.length ≤ 1000000 ∧ isAlpha z = true ∧ Kt .non S) ∨ (((∃ z : Str, d = .str z ∧ z.length ≤ 1000000 ∧ isAlpha z = false) ∨ notStr S d) ∧ X ⟨He.ga K "InvalidAlphabet", ["code", "given"], [.str "InvalidAlphabet", d]⟩ S))
/-- a list that is returned: as what never changes, or as a cell of its own -/
def outL (S : Store) (Kt : KE) (xs : List Dat) : Prop := Kt (.lst xs) S ∨ ∀ (R : List Dat) (m : Nat), R[m]? = some (.lst xs) → belows 0 R → Kt (.cell (S.length + m)) (S ++ R)
/-- no word over a -/
def badWord (S : Store) (a : Str) (v : Dat) : Prop := (∃ z : Str, v = .str z ∧ z.length ≤ 1000000 ∧ isWord a z = false) ∨ notStr S v
def sp_law_signs (K : PySem.W.Frag) : Spec := fun ds S Kt _ => ∃ (b : Nat) (bag : Dat), ds = [.cell b] ∧ S[b]? = some bag ∧ IsBag bag ∧ ∀ z bag', isAlpha z = true → IsBag bag' → Kt (.str z) (S.set b bag')
def sp_law_text (K : PySem.W.Frag) : Spec := fun ds S Kt _ => ∃ (b : Nat) (bag : Dat) (z : Str) (n : Nat), ds = [.cell b, .str z, natD n] ∧ n ≤ 1000 ∧ 0 < z.length ∧ z.length ≤ 1000 ∧ S[b]? = some bag ∧ IsBag bag ∧ ∀ t : Str, ∀ bag', t.length = n → isWord z t = true → IsBag bag' → Kt (.str t) (S.set b bag')
abbrev excIW (K : PySem.W.Frag) (v : Dat) : Exc := ⟨He.ga K "InvalidWord", ["code", "given"], [.str "InvalidWord", v]⟩
def sp_need_word (K : PySem.W.Frag) : Spec := fun ds S Kt X => ∃ (a : Str) (v : Dat), ds = [.str a, v] ∧ ((∃ z : Str, v = .str z ∧ z.length ≤ 1000000 ∧ isWord a z = true ∧ Kt .non S) ∨ (badWord S a v ∧ X (excIW K v) S))
theorem len_need_alphabet {K : PySem.W.Frag} {ds S Kt X} (h : sp_need_alphabet K ds S Kt X) : ds.length = 1 := by obtain ⟨_, rfl, _⟩ := h; rfl
theorem len_law_text {K : PySem.W.Frag} {ds S Kt X} (h : sp_law_text K ds S Kt X) : ds.length = 3 := by obtain ⟨_, _, _, _, rfl, _⟩ := h; rfl
theorem len_need_word {K : PySem.W.Frag} {ds S Kt X} (h : sp_need_word K ds S Kt X) : ds.length = 2 := by obtain ⟨_, _, rfl, _⟩ := h; rfl
def u_need_alphabet (K : PySem.W.Frag) : US :=
  (uIfS (uNot (uTru (uCall (sp_is_alphabet K) [] (uCons (uVar 0) uNil)))) (uRaise (He.ga K "InvalidAlphabet") [("code", .c "InvalidAlphabet"), ("given", .a 0)] 1 false (uCons (uVar 0) uNil)) uNext)
def u_need_word (K : PySem.W.Frag) : US :=
  (uIfS (uNot (uTru (uCall (sp_is_word K) [] (uCons (uVar 0) (uCons (uVar 1) uNil))))) (uRaise (He.ga K "InvalidWord") [("code", .c "InvalidWord"), ("given", .a 0)] 1 false (uCons (uVar 1) uNil)) uNext)
def u_law_signs (K : PySem.W.Frag) : US :=
  (uSeq (uSet 1 (uOp gAdd (uC (.int 1)) (uCall (sp_law_of K) [] (uCons (uVar 0) (uCons (uLst (uCons (uC (.int 0)) (uCons (uC (.int 1)) (uCons (uC (.int 1)) (uCons (uC (.int 1)) (uCons (uC (.int 2)) (uCons (uC (.int 3)) uNil))))))) uNil)))))
    (uSeq (uSet 2 (uLstC uNil))
    (uSeq (uFor (uR1 (uCons (uVar 1) uNil)) (uName 3) (uSeq (uSet 4 (uLc (uSeqI (uC (.str "abcdefghijklmnopqrstuvwxyz"))) [5] (uName 5) (uTest (uOp (gIn (!·)) (uVar 5) (uVar 2))) (uVar 5)))
    (uDrop (uBM "list" gAppend (uVar 2) (uCons (uOp gIx (uVar 4) (uCall (sp_law_of K) [] (uCons (uVar 0) (uCons (uLst (uCons (uC (.int 0)) (uCons (uC (.int 0)) (uCons (uC (.int 0)) (uCons (uCall (sp_law_pull K) [] (uCons (uVar 0) (uCons (uCB gLen (uCons (uVar 4) uNil)) uNil))) uNil))))) uNil)))) uNil)))))
    (uRet (uBM "str" gJoin (uC (.str "")) (uCons (uCB (gSortedS fun xs S K => K (.lst xs) S) (uCons (uVar 2) uNil)) uNil))))))
def u_law_text (K : PySem.W.Frag) : US :=
  (uRet (uBM "str" gJoin (uC (.str "")) (uCons (uLc (uR1 (uCons (uVar 2) uNil)) [3] (uName 3) uYes (uCall (sp_law_of K) [] (uCons (uVar 0) (uCons (uVar 1) uNil)))) uNil)))
end DL
/-! SP: machines: promises. -/
namespace DL
open PySem L2
/-- a row of goals, as data -/
def encRow (g : List Nat) : Dat := .tup (g.map fun (n : Nat) => Dat.int (n : Int))
def isNumB (lo hi : Int) : Dat → Bool
  | .int v => decide (lo ≤ v) && decide (v ≤ hi)
  | _ => false
/-- data whose kind isinstance tells -/
def okKind (S : Store) (d : Dat) : Prop := ∃ t, tyS S d = some t ∧ t ∈ tyNames
def isRowB (w m : Nat) : Dat → Bool
  | .tup xs => decide (xs.length = w) && xs.all (isNumB 0 ((m : Int) - 1))
  | _ => false
def okRowK (S : Store) (d : Dat) : Prop := okKind S d ∧ ∀ xs, d = .tup xs → xs.length ≤ 1000000 ∧ ∀ x ∈ xs, okKind S x
def sp_is_row (K : PySem.W.Frag) : Spec := fun ds S Kt _ => ∃ (d : Dat) (w m : Nat), ds = [d, natD w, natD m] ∧ okRowK S d ∧ Kt (.bl (isRowB w m d)) S
/-- a machine's fields -/
def maNs : List Str := ["own_alphabet", "own_rows", "own_start"]
def maD (K : PySem.W.Frag) (a : Str) (g : List (List Nat)) (s : Nat) : Dat := .ins (He.ga K "Machine") maNs [.str a, .lst (g.map encRow), natD s]
def okRows (w : Nat) (g : List (List Nat)) : Prop := ∀ r ∈ g, r.length = w ∧ ∀ x ∈ r, x < g.length
structure isMa (K : PySem.W.Frag) (S : Store) (d : Dat) (a : Str) (g : List (List Nat)) (s : Nat) : Prop where
  ins : insD S d = some (He.ga K "Machine", maNs, [.str a, .lst (g.map encRow), natD s])
  al : isAlpha a = true
  rows : okRows a.length g
  pos : 0 < g.length
  most : g.length ≤ 1000
  st : s < g.length
abbrev excG (K : PySem.W.Frag) (C f : Str) (v : Dat) : Exc := ⟨He.ga K C, ["code", f], [.str C, v]⟩
abbrev excTM (K : PySem.W.Frag) (s : Str) (m : Int) : Exc := ⟨He.ga K "TooMany", ["code", "most", "subject"], [.str "TooMany", .int m, .str s]⟩
def badAlpha (S : Store) (d : Dat) : Prop := (∃ z : Str, d = .str z ∧ z.length ≤ 1000000 ∧ isAlpha z = false) ∨ notStr S d
def notSeq (S : Store) (d : Dat) : Prop := ∃ t, tyS S d = some t ∧ t ∈ tyNames ∧ t ≠ "list" ∧ t ≠ "tuple"
def notIn (S : Store) (d : Dat) (n : Nat) : Prop := (∃ v : Int, d = .int v ∧ (v < 0 ∨ (n : Int) ≤ v)) ∨ notInt S d
/-- how the making of a machine ends -/
inductive MkMa (K : PySem.W.Frag) (S : Store) (n : Nat) (Kt : KE) (X : KX) (av d sv : Dat) : Prop where
  | alpha : badAlpha S av → X (excG K "InvalidAlphabet" "given" av) S → MkMa K S n Kt X av d sv
  | noseq (z : Str) : av = .str z → z.length ≤ 1000000 → isAlpha z = true → notSeq S d → X (excG K "InvalidRows" "at" (.int 0)) S → MkMa K S n Kt X av d sv
  | empty (z : Str) : av = .str z → z.length ≤ 1000000 → isAlpha z = true → seqD S d = some [] → X (excG K "InvalidRows" "at" (.int 0)) S → MkMa K S n Kt X av d sv
  | many (z : Str) (rs : List Dat) : av = .str z → z.length ≤ 1000000 → isAlpha z = true → seqD S d = some rs → 1000 < rs.length → rs.length ≤ 1000000 → X (excTM K "states" 1000) S → MkMa K S n Kt X av d sv
  | row (z : Str) (rs : List Dat) (i : Nat) (r : Dat) : av = .str z → z.length ≤ 1000000 → isAlpha z = true → seqD S d = some rs → rs.length ≤ 1000 → (∀ x ∈ rs, okRowK S x) → rs[i]? = some r → isRowB z.length rs.length r = false → (∀ j x, j < i → rs[j]? = some x → isRowB z.length rs.length x = true) → X (excG K "InvalidRows" "at" (natD i)) S → MkMa K S n Kt X av d sv
  | start (z : Str) (g : List (List Nat)) : av = .str z → z.length ≤ 1000000 → isAlpha z = true → seqD S d = some (g.map encRow) → 0 < g.length → g.length ≤ 1000 → okRows z.length g → notIn S sv g.length → X (excG K "InvalidState" "given" sv) S → MkMa K S n Kt X av d sv
  | made (z : Str) (g : List (List Nat)) (s : Nat) : av = .str z → z.length ≤ 1000000 → isAlpha z = true → seqD S d = some (g.map encRow) → 0 < g.length → g.length ≤ 1000 → okRows z.length g → sv = natD s → s < g.length → d ≠ .cell n → Kt .non (S.set n (maD K z g s)) → MkMa K S n Kt X av d sv
def sp_Machine_init (K : PySem.W.Frag) : Spec := fun ds S Kt X => ∃ (n : Nat) (av d sv : Dat), ds = [.cell n, av, d, sv] ∧ S[n]? = some (.ins (He.ga K "Machine") [] []) ∧ MkMa K S n Kt X av d sv
def sp_Machine_need_state (K : PySem.W.Frag) : Spec := fun ds S Kt X => ∃ (d sv : Dat) (a : Str) (g : List (List Nat)) (s : Nat), ds = [d, sv] ∧ isMa K S d a g s ∧
  ((∃ q : Nat, sv = natD q ∧ q < g.length ∧ Kt .non S) ∨ (notIn S sv g.length ∧ X (excG K "InvalidState" "given" sv) S))
/-- where a word leads -/
def ledF (a : Str) (g : List (List Nat)) (s : Nat) (w : List Nat) : Nat := w.foldl (fun q c => (g.getD q []).getD (a.cps.toList.idxOf c) 0) s
def sp_Machine_led (K : PySem.W.Frag) : Spec := fun ds S Kt X => ∃ (d sv v : Dat) (a : Str) (g : List (List Nat)) (s : Nat), ds = [d, sv, v] ∧ isMa K S d a g s ∧
  ((notIn S sv g.length ∧ X (excG K "InvalidState" "given" sv) S) ∨ (∃ q : Nat, sv = natD q ∧ q < g.length ∧ ((badWord S a v ∧ X (excIW K v) S) ∨ ∃ z : Str, v = .str z ∧ z.length ≤ 1000000 ∧ isWord a z = true ∧ Kt (natD (ledF a g q z.cps.toList)) S)))
def sp_Machine_after (K : PySem.W.Frag) : Spec := fun ds S Kt X => ∃ (d v : Dat) (a : Str) (g : List (List Nat)) (s : Nat), ds = [d, v] ∧ isMa K S d a g s ∧
  ((badWord S a v ∧ X (excIW K v) S) ∨ ∃ z : Str, v = .str z ∧ z.length ≤ 1000000 ∧ isWord a z = true ∧ Kt (natD (ledF a g s z.cps.toList)) S)
/-! the law's own -/
def sp_law_goals (K : PySem.W.Frag) : Spec := fun ds S Kt _ => ∃ (b : Nat) (bag : Dat) (m w : Nat), ds = [.cell b, natD m, natD w] ∧ 0 < m ∧ m ≤ 1000 ∧ w ≤ 1000 ∧ S[b]? = some bag ∧ IsBag bag ∧ ∀ (g : List (List Nat)) bag', g.length = m → okRows w g → IsBag bag' → Kt (.lst (g.map encRow)) (S.set b bag')
def sp_law_go (K : PySem.W.Frag) : Spec := fun ds S Kt _ => ∃ (a z : Str) (g : List (List Nat)) (q : Nat), ds = [.lst (g.map encRow), .str a, natD q, .str z] ∧ okRows a.length g ∧ q < g.length ∧ isWord a z = true ∧ a.length ≤ 1000000 ∧ z.length ≤ 1000000 ∧ Kt (natD (ledF a g q z.cps.toList)) S
/-- what is no state below m -/
def numLike (m : Nat) (v : Dat) : Prop := v ∈ ([natD m, .int (-1), .non, .bl true, .bl false, .str "0", .lst [.int 0], .tup [.int 0], .int ((m : Int) + 7)] : List Dat)
def sp_law_number_like (K : PySem.W.Frag) : Spec := fun ds S Kt _ => ∃ (b : Nat) (bag : Dat) (m : Nat), ds = [.cell b, natD m] ∧ S[b]? = some bag ∧ IsBag bag ∧ ∀ v bag', numLike m v → IsBag bag' → Kt v (S.set b bag')
def sp_Machine_alphabet (K : PySem.W.Frag) : Spec := fun ds S Kt _ => ∃ (d : Dat) (a : Str) (g : List (List Nat)) (s : Nat), ds = [d] ∧ isMa K S d a g s ∧ Kt (.str a) S
def sp_Machine_start (K : PySem.W.Frag) : Spec := fun ds S Kt _ => ∃ (d : Dat) (a : Str) (g : List (List Nat)) (s : Nat), ds = [d] ∧ isMa K S d a g s ∧ Kt (natD s) S
def sp_Machine_rows (K : PySem.W.Frag) : Spec := fun ds S Kt _ => ∃ (d : Dat) (a : Str) (g : List (List Nat)) (s : Nat), ds = [d] ∧ isMa K S d a g s ∧ Kt (.cell S.length) (S ++ [.lst (g.map encRow)])
def sp_Machine_len (K : PySem.W.Frag) : Spec := fun ds S Kt _ => ∃ (d : Dat) (a : Str) (g : List (List Nat)) (s : Nat), ds = [d] ∧ isMa K S d a g s ∧ Kt (natD g.length) S
def sp_Machine_repr (K : PySem.W.Frag) : Spec := fun ds S Kt _ => ∃ (d : Dat) (a : Str) (g : List (List Nat)) (s : Nat), ds = [d] ∧ isMa K S d a g s ∧ Kt (.str (Str.append (Str.append "Machine(" (toString (g.length : Int))) " states)")) S
def u_is_row (K : PySem.W.Frag) : US :=
  (uRet (uAndV (uCB (gIsi K) (uCons (uVar 0) (uCons (uC (.raw (.ty "tuple"))) uNil))) (uAndV (uOp gEq (uCB gLen (uCons (uVar 0) uNil)) (uVar 1)) (uCB (gBools fun bs => bs.all id) (uCons (uLc (uSeqI (uVar 0)) [3] (uName 3) uYes (uCall (sp_is_number K) [] (uCons (uVar 3) (uCons (uC (.int 0)) (uCons (uOp gSub (uVar 2) (uC (.int 1))) uNil))))) uNil)))))
def u_Machine_init (K : PySem.W.Frag) : US :=
  (uSeq (uDrop (uCall (sp_need_alphabet K) [] (uCons (uVar 1) uNil)))
    (uSeq (uIfS (uOr (uNot (uTru (uCB (gIsi K) (uCons (uVar 2) (uCons (uTup (uCons (uC (.raw (.ty "list"))) (uCons (uC (.raw (.ty "tuple"))) uNil))) uNil))))) (uTest (uOp gEq (uCB gLen (uCons (uVar 2) uNil)) (uC (.int 0))))) (uRaise (He.ga K "InvalidRows") [("code", .c "InvalidRows"), ("at", .a 0)] 1 false (uCons (uC (.int 0)) uNil)) uNext)
    (uSeq (uIfS (uTest (uOp gGt (uCB gLen (uCons (uVar 2) uNil)) (uC (.int 1000)))) (uRaise (He.ga K "TooMany") [("code", .c "TooMany"), ("most", .a 1), ("subject", .a 0)] 2 true (uCons (uC (.str "states")) (uCons (uC (.int 1000)) uNil))) uNext)
    (uSeq (uFor (uEnK 0 (uCons (uVar 2) uNil)) (uGTup 2 (uGCons (uName 4) (uGCons (uName 5) uGNil))) (uIfS (uNot (uTru (uCall (sp_is_row K) [] (uCons (uVar 5) (uCons (uCB gLen (uCons (uVar 1) uNil)) (uCons (uCB gLen (uCons (uVar 2) uNil)) uNil)))))) (uRaise (He.ga K "InvalidRows") [("code", .c "InvalidRows"), ("at", .a 0)] 1 false (uCons (uVar 4) uNil)) uNext))
    (uSeq (uIfS (uNot (uTru (uCall (sp_is_number K) [] (uCons (uVar 3) (uCons (uC (.int 0)) (uCons (uOp gSub (uCB gLen (uCons (uVar 2) uNil)) (uC (.int 1))) uNil)))))) (uRaise (He.ga K "InvalidState") [("code", .c "InvalidState"), ("given", .a 0)] 1 false (uCons (uVar 3) uNil)) uNext)
    (uSeq (uSetF [He.ga K "Machine"] "own_alphabet" (uVar 0) (uVar 1))
    (uSeq (uSetF [He.ga K "Machine"] "own_rows" (uVar 0) (uCB gListT (uCons (uVar 2) uNil)))
    (uSetF [He.ga K "Machine"] "own_start" (uVar 0) (uVar 3)))))))))
def u_Machine_need_state (K : PySem.W.Frag) : US :=
  (uIfS (uNot (uTru (uCall (sp_is_number K) [] (uCons (uVar 1) (uCons (uC (.int 0)) (uCons (uOp gSub (uCB gLen (uCons (uFld [He.ga K "Machine"] "own_rows" (uVar 0)) uNil)) (uC (.int 1))) uNil)))))) (uRaise (He.ga K "InvalidState") [("code", .c "InvalidState"), ("given", .a 0)] 1 false (uCons (uVar 1) uNil)) uNext)
def u_Machine_led (K : PySem.W.Frag) : US :=
  (uSeq (uDrop (uMeth [(He.ga K "Machine", sp_Machine_need_state K)] "need_state" [] (uVar 0) (uCons (uVar 1) uNil)))
    (uSeq (uDrop (uCall (sp_need_word K) [] (uCons (uFld [He.ga K "Machine"] "own_alphabet" (uVar 0)) (uCons (uVar 2) uNil))))
    (uSeq (uFor (uSeqI (uVar 2)) (uName 3) (uSet 1 (uOp gIx (uOp gIx (uFld [He.ga K "Machine"] "own_rows" (uVar 0)) (uVar 1)) (uBM "str" gSIndex (uFld [He.ga K "Machine"] "own_alphabet" (uVar 0)) (uCons (uVar 3) uNil)))))
    (uRet (uVar 1)))))
def u_Machine_after (K : PySem.W.Frag) : US :=
  (uRet (uMeth [(He.ga K "Machine", sp_Machine_led K)] "led" [] (uVar 0) (uCons (uFld [He.ga K "Machine"] "own_start" (uVar 0)) (uCons (uVar 1) uNil))))
def u_law_goals (K : PySem.W.Frag) : US :=
  (uRet (uLc (uR1 (uCons (uVar 1) uNil)) [3] (uName 3) uYes (uCB gTupleC (uCons (uLc (uR1 (uCons (uVar 2) uNil)) [4] (uName 4) uYes (uCall (sp_law_pull K) [] (uCons (uVar 0) (uCons (uVar 1) uNil)))) uNil))))
def u_law_go (K : PySem.W.Frag) : US :=
  (uSeq (uFor (uSeqI (uVar 3)) (uName 4) (uSet 2 (uOp gIx (uOp gIx (uVar 0) (uVar 2)) (uBM "str" gSIndex (uVar 1) (uCons (uVar 4) uNil)))))
    (uRet (uVar 2)))
def u_law_number_like (K : PySem.W.Frag) : US :=
  (uRet (uCall (sp_law_of K) [] (uCons (uVar 0) (uCons (uLst (uCons (uVar 1) (uCons (uUn gNeg (uC (.int 1))) (uCons (uC .non) (uCons (uC (.bl true)) (uCons (uC (.bl false)) (uCons (uC (.str "0")) (uCons (uLst (uCons (uC (.int 0)) uNil)) (uCons (uTup (uCons (uC (.int 0)) uNil)) (uCons (uOp gAdd (uVar 1) (uC (.int 7))) uNil)))))))))) uNil))))
def u_Machine_alphabet (K : PySem.W.Frag) : US :=
  (uRet (uFld [He.ga K "Machine"] "own_alphabet" (uVar 0)))
def u_Machine_start (K : PySem.W.Frag) : US :=
  (uRet (uFld [He.ga K "Machine"] "own_start" (uVar 0)))
def u_Machine_rows (K : PySem.W.Frag) : US :=
  (uRet (uCB gListC (uCons (uFld [He.ga K "Machine"] "own_rows" (uVar 0)) uNil)))
def u_Machine_len (K : PySem.W.Frag) : US :=
  (uRet (uCB gLen (uCons (uFld [He.ga K "Machine"] "own_rows" (uVar 0)) uNil)))
def u_Machine_repr (K : PySem.W.Frag) : US :=
  (uRet (uJoin [(uC (.str "Machine(")), (uUn gFmt (uCB gLen (uCons (uFld [He.ga K "Machine"] "own_rows" (uVar 0)) uNil))), (uC (.str " states)"))]))
end DL
/-! SW: reachable states and their first words: promises. -/
namespace DL
open PySem L2
/-- a row's goals, each with its letter, are looked at -/
def bfsRow (w : Str) : List (Nat × Nat) → List (Nat × Str) → List (Nat × Str)
  | [], ps => ps
  | (q, c) :: r, ps => bfsRow w r (if q ∈ ps.map (·.1) then ps else ps ++ [(q, w ++ sgn c)])
def bfs (a : Str) (g : List (List Nat)) : Nat → Nat → List (Nat × Str) → List (Nat × Str)
  | 0, _, ps => ps
  | n + 1, i, ps => match ps[i]? with
    | none => ps
    | some (q, w) => bfs a g n (i + 1) (bfsRow w ((g.getD q []).zip a.cps.toList) ps)
def reachF (a : Str) (g : List (List Nat)) (s : Nat) : List (Nat × Str) := bfs a g (g.length + 1) 0 [(s, "")]
def kp (p : Nat × Str) : Key × Dat := (.inl (p.1 : Int), .str p.2)
def wordsD (ps : List (Nat × Str)) : Dat := dctD (ps.map kp)
def sp_first_words (K : PySem.W.Frag) : Spec := fun ds S Kt _ => ∃ (a : Str) (g : List (List Nat)) (s : Nat), ds = [.lst (g.map encRow), .lst [natD s], .str a] ∧ okRows a.length g ∧ a.length ≤ 4 ∧ s < g.length ∧ g.length ≤ 1000 ∧ Kt (wordsD (reachF a g s)) S
def sp_Machine_words_to_states (K : PySem.W.Frag) : Spec := fun ds S Kt _ => ∃ (d : Dat) (a : Str) (g : List (List Nat)) (s : Nat), ds = [d] ∧ isMa K S d a g s ∧ Kt (wordsD (reachF a g s)) S
def sp_Machine_reachable (K : PySem.W.Frag) : Spec := fun ds S Kt _ => ∃ (d : Dat) (a : Str) (g : List (List Nat)) (s : Nat), ds = [d] ∧ isMa K S d a g s ∧ g.length < 64 ∧ ∀ ys : List Int, ys.Perm ((reachF a g s).map fun p => (p.1 : Int)) → ys.Pairwise (· ≤ ·) → Kt (.cell S.length) (S ++ [.lst (ys.map Dat.int)])
def sp_Machine_first_word (K : PySem.W.Frag) : Spec := fun ds S Kt X => ∃ (d sv : Dat) (a : Str) (g : List (List Nat)) (s : Nat), ds = [d, sv] ∧ isMa K S d a g s ∧
  ((∃ q : Nat, sv = natD q ∧ q < g.length ∧ Kt ((valD ((reachF a g s).map kp) (.inl (q : Int))).getD .non) S) ∨ (notIn S sv g.length ∧ X (excG K "InvalidState" "given" sv) S))
def sp_law_reach (K : PySem.W.Frag) : Spec := fun ds S Kt _ => ∃ (a : Str) (g : List (List Nat)) (s : Nat), ds = [.lst (g.map encRow), .str a, natD s] ∧ okRows a.length g ∧ a.length ≤ 4 ∧ s < g.length ∧ g.length ≤ 1000 ∧ Kt (.lst ((reachF a g s).map fun p => pairD (kp p))) S
def u_first_words (K : PySem.W.Frag) : US :=
  (uSeq (uSet 3 (uCB gDictP (uCons (uLc (uSeqI (uVar 1)) [6] (uName 6) uYes (uTup (uCons (uVar 6) (uCons (uC (.str "")) uNil)))) uNil)))
    (uSeq (uSet 4 (uCB gListC (uCons (uVar 1) uNil)))
    (uSeq (uSet 5 (uC (.int 0)))
    (uSeq (uWhile (uTest (uOp gLt (uVar 5) (uCB gLen (uCons (uVar 4) uNil)))) (uSeq (uSet 6 (uOp gIx (uVar 4) (uVar 5)))
    (uSeq (uSet 5 (uOp gAdd (uVar 5) (uC (.int 1))))
    (uFor (uZ (uCons (uOp gIx (uVar 0) (uVar 6)) (uCons (uVar 2) uNil))) (uGTup 2 (uGCons (uName 7) (uGCons (uName 8) uGNil))) (uIfS (uTest (uOp (gDI (!·)) (uVar 7) (uVar 3))) (uSeq (uAsg (uOp gAdd (uOp gDG (uVar 3) (uVar 6)) (uVar 8)) (uGSub (uVar 3) (uVar 7) gDP))
    (uDrop (uBM "list" gAppend (uVar 4) (uCons (uVar 7) uNil)))) uNext)))))
    (uRet (uVar 3))))))
def u_Machine_words_to_states (K : PySem.W.Frag) : US :=
  (uRet (uCall (sp_first_words K) [] (uCons (uFld [He.ga K "Machine"] "own_rows" (uVar 0)) (uCons (uLst (uCons (uFld [He.ga K "Machine"] "own_start" (uVar 0)) uNil)) (uCons (uFld [He.ga K "Machine"] "own_alphabet" (uVar 0)) uNil)))))
def u_Machine_reachable (K : PySem.W.Frag) : US :=
  (uRet (uCB (gSortD true) (uCons (uMeth [(He.ga K "Machine", sp_Machine_words_to_states K)] "words_to_states" [] (uVar 0) uNil) uNil)))
def u_Machine_first_word (K : PySem.W.Frag) : US :=
  (uSeq (uDrop (uMeth [(He.ga K "Machine", sp_Machine_need_state K)] "need_state" [] (uVar 0) (uCons (uVar 1) uNil)))
    (uRet (uDGet (uMeth [(He.ga K "Machine", sp_Machine_words_to_states K)] "words_to_states" [] (uVar 0) uNil) (uVar 1))))
def u_law_reach (K : PySem.W.Frag) : US :=
  (uSeq (uPar 3 4 (uCons (uLstC (uCons (uTup (uCons (uVar 2) (uCons (uC (.str "")) uNil))) uNil)) (uCons (uC (.int 0)) uNil)))
    (uSeq (uWhile (uTest (uOp gLt (uVar 4) (uCB gLen (uCons (uVar 3) uNil)))) (uSeq (uAsg (uOp gIx (uVar 3) (uVar 4)) (uGTup 2 (uGCons (uName 5) (uGCons (uName 6) uGNil))))
    (uSeq (uSet 4 (uOp gAdd (uVar 4) (uC (.int 1))))
    (uFor (uR1 (uCons (uCB gLen (uCons (uVar 1) uNil)) uNil)) (uName 7) (uIfS (uTest (uOp (gIn (!·)) (uOp gIx (uOp gIx (uVar 0) (uVar 5)) (uVar 7)) (uLc (uSeqI (uVar 3)) [8, 9] (uGTup 2 (uGCons (uName 8) (uGCons (uName 9) uGNil))) uYes (uVar 8)))) (uDrop (uBM "list" gAppend (uVar 3) (uCons (uTup (uCons (uOp gIx (uOp gIx (uVar 0) (uVar 5)) (uVar 7)) (uCons (uOp gAdd (uVar 6) (uOp gIx (uVar 1) (uVar 7))) uNil))) uNil))) uNext)))))
    (uRet (uVar 3))))
end DL
/-! ST: sets of states, images, turns: promises. -/
namespace DL
open PySem L2
abbrev intDs (g : List Int) : List Dat := g.map Dat.int
def natOf : Dat → Nat
  | .int v => v.toNat
  | _ => 0
def geB : Dat → Bool
  | .int v => decide (0 ≤ v)
  | _ => false
/-- whether data is a set of states, R the reachable ones -/
def isSetB (R : List Nat) : Dat → Bool
  | .tup xs => decide (xs.length ≠ 0) && (xs.all geB && (ascL (xs.map natOf) && (xs.map natOf).all fun q => decide (q ∈ R)))
  | _ => false
def reachN (a : Str) (g : List (List Nat)) (s : Nat) : List Nat := (reachF a g s).map (·.1)
def upI (R : List Nat) : List Int := R.map fun (n : Nat) => (n : Int)
def sp_small_reach (K : PySem.W.Frag) : Spec := fun ds S Kt X => ∃ (d : Dat) (a : Str) (g : List (List Nat)) (s : Nat), ds = [d] ∧ isMa K S d a g s ∧ g.length < 64 ∧
  ((6 < (reachN a g s).length ∧ X (excTM K "states" 6) S) ∨ ((reachN a g s).length ≤ 6 ∧ ∀ ys : List Int, ys.Perm (upI (reachN a g s)) → ys.Pairwise (· ≤ ·) → Kt (.lst (intDs ys)) S))
def sp_is_set (K : PySem.W.Frag) : Spec := fun ds S Kt _ => ∃ (ys : List Int) (R : List Nat) (v : Dat), ds = [.lst (intDs ys), v] ∧ ys.Perm (upI R) ∧ okRowK S v ∧ Kt (.bl (isSetB R v)) S
abbrev goSet (K : PySem.W.Frag) (S : Store) (X : KX) (v : Dat) (R : List Nat) (P : Prop) : Prop :=
  (6 < R.length ∧ X (excTM K "states" 6) S) ∨ (R.length ≤ 6 ∧ isSetB R v = false ∧ X (excG K "InvalidSet" "given" v) S) ∨ (R.length ≤ 6 ∧ isSetB R v = true ∧ P)
def sp_need_set (K : PySem.W.Frag) : Spec := fun ds S Kt X => ∃ (d v : Dat) (a : Str) (g : List (List Nat)) (s : Nat), ds = [d, v] ∧ isMa K S d a g s ∧ g.length < 64 ∧ okRowK S v ∧ goSet K S X v (reachN a g s) (Kt .non S)
def ledI (a : Str) (g : List (List Nat)) (qs : List Nat) (w : Str) : List Int := qs.map fun q => ((ledF a g q w.cps.toList : Nat) : Int)
def sp_led_set (K : PySem.W.Frag) : Spec := fun ds S Kt _ => ∃ (d : Dat) (qs : List Nat) (w a : Str) (g : List (List Nat)) (s : Nat), ds = [d, .tup (intDs (upI qs)), .str w] ∧ isMa K S d a g s ∧ (∀ q ∈ qs, q < g.length) ∧ qs.length < 60 ∧ isWord a w = true ∧ w.length ≤ 1000000 ∧ Kt (.tup (intDs (ledI a g qs w))) S
abbrev goWord (K : PySem.W.Frag) (S : Store) (X : KX) (a : Str) (wd : Dat) (P : Str → Prop) : Prop :=
  (badWord S a wd ∧ X (excIW K wd) S) ∨ ∃ w : Str, wd = .str w ∧ w.length ≤ 1000000 ∧ isWord a w = true ∧ P w
def sp_image (K : PySem.W.Frag) : Spec := fun ds S Kt X => ∃ (d v wd : Dat) (a : Str) (g : List (List Nat)) (s : Nat), ds = [d, v, wd] ∧ isMa K S d a g s ∧ g.length < 64 ∧ okRowK S v ∧
  goSet K S X v (reachN a g s) (∃ qs : List Nat, v = .tup (intDs (upI qs)) ∧ qs.length < 60 ∧ (∀ q ∈ qs, q < g.length) ∧ goWord K S X a wd fun w => ∀ ys : List Int, ys.Pairwise (· < ·) → (∀ k, k ∈ ys ↔ k ∈ ledI a g qs w) → Kt (.tup (intDs ys)) S)
def sp_turn (K : PySem.W.Frag) : Spec := fun ds S Kt X => ∃ (d v wd : Dat) (a : Str) (g : List (List Nat)) (s : Nat), ds = [d, v, wd] ∧ isMa K S d a g s ∧ g.length < 64 ∧ okRowK S v ∧
  goSet K S X v (reachN a g s) (∃ qs : List Nat, v = .tup (intDs (upI qs)) ∧ qs.length < 60 ∧ (∀ q ∈ qs, q < g.length) ∧ goWord K S X a wd fun w => ∀ ys : List Int, ys.Perm (ledI a g qs w) → ys.Pairwise (· ≤ ·) → Kt (if ys = upI qs then .tup (intDs (ledI a g qs w)) else .non) S)
def u_small_reach (K : PySem.W.Frag) : US :=
  (uSeq (uSet 1 (uMeth [(He.ga K "Machine", sp_Machine_reachable K)] "reachable" [] (uVar 0) uNil))
    (uSeq (uIfS (uTest (uOp gGt (uCB gLen (uCons (uVar 1) uNil)) (uC (.int 6)))) (uRaise (He.ga K "TooMany") [("code", .c "TooMany"), ("most", .a 1), ("subject", .a 0)] 2 true (uCons (uC (.str "states")) (uCons (uC (.int 6)) uNil))) uNext)
    (uRet (uVar 1))))
def u_is_set (K : PySem.W.Frag) : US :=
  (uSeq (uIfS (uOr (uNot (uTru (uCB (gIsi K) (uCons (uVar 1) (uCons (uC (.raw (.ty "tuple"))) uNil))))) (uOr (uTest (uOp gEq (uCB gLen (uCons (uVar 1) uNil)) (uC (.int 0)))) (uNot (uTru (uCB (gBools fun bs => bs.all id) (uCons (uLc (uSeqI (uVar 1)) [2] (uName 2) uYes (uCall (sp_is_number K) [.non] (uCons (uVar 2) (uCons (uC (.int 0)) uNil)))) uNil)))))) (uRet (uC (.bl false))) uNext)
    (uRet (uAndV (uCall (sp_ascends K) [] (uCons (uVar 1) uNil)) (uCB (gBools fun bs => bs.all id) (uCons (uLc (uSeqI (uVar 1)) [2] (uName 2) uYes (uOp (gIn id) (uVar 2) (uVar 0))) uNil)))))
def u_need_set (K : PySem.W.Frag) : US :=
  (uIfS (uNot (uTru (uCall (sp_is_set K) [] (uCons (uCall (sp_small_reach K) [] (uCons (uVar 0) uNil)) (uCons (uVar 1) uNil))))) (uRaise (He.ga K "InvalidSet") [("code", .c "InvalidSet"), ("given", .a 0)] 1 false (uCons (uVar 1) uNil)) uNext)
def u_led_set (K : PySem.W.Frag) : US :=
  (uRet (uCB gTupleC (uCons (uLc (uSeqI (uVar 1)) [3] (uName 3) uYes (uMeth [(He.ga K "Machine", sp_Machine_led K)] "led" [] (uVar 0) (uCons (uVar 3) (uCons (uVar 2) uNil)))) uNil)))
def u_image (K : PySem.W.Frag) : US :=
  (uSeq (uDrop (uCall (sp_need_set K) [] (uCons (uVar 0) (uCons (uVar 1) uNil))))
    (uSeq (uDrop (uCall (sp_need_word K) [] (uCons (uProp [(He.ga K "Machine", sp_Machine_alphabet K)] (uVar 0)) (uCons (uVar 2) uNil))))
    (uRet (uCB gTupleC (uCons (uSortSet (uCall (sp_led_set K) [] (uCons (uVar 0) (uCons (uVar 1) (uCons (uVar 2) uNil))))) uNil)))))
def u_turn (K : PySem.W.Frag) : US :=
  (uSeq (uDrop (uCall (sp_need_set K) [] (uCons (uVar 0) (uCons (uVar 1) uNil))))
    (uSeq (uDrop (uCall (sp_need_word K) [] (uCons (uProp [(He.ga K "Machine", sp_Machine_alphabet K)] (uVar 0)) (uCons (uVar 2) uNil))))
    (uSeq (uSet 3 (uCall (sp_led_set K) [] (uCons (uVar 0) (uCons (uVar 1) (uCons (uVar 2) uNil)))))
    (uRet (uIf (uTest (uOp gEq (uCB gTupleC (uCons (uCB gSortU (uCons (uVar 3) uNil)) uNil)) (uVar 1))) (uVar 3) (uC .non))))))
end DL
/-! OP1: a promise opened at the head of what is to be shown. -/
namespace DL
open PySem L2
theorem o_ascends {K : PySem.W.Frag} {ds : List Dat} {S : Store} {Kt : KE} {Xo : KX} (h : (∃ z : Str, ds = [.str z] ∧ z.length ≤ 1000000 ∧ (goK Kt) (.bl (ascL z.cps.toList)) S) ∨ ∃ ns : List Nat, ds = [.tup (ns.map fun (n : Nat) => Dat.int (n : Int))] ∧ ns.length ≤ 1000000 ∧ (goK Kt) (.bl (ascL ns)) S) : sp_ascends K ds S Kt Xo := h
theorem o_law_bag {K : PySem.W.Frag} {ds : List Dat} {S : Store} {Kt : KE} {Xo : KX} (h : ∃ ns : List Int, ds = [.sq K ns] ∧ ns.length ≤ 63 ∧ ∀ bag, IsBag bag → (goK Kt) (.cell S.length) (S ++ [bag])) : sp_law_bag K ds S Kt Xo := h
theorem o_law_pull {K : PySem.W.Frag} {ds : List Dat} {S : Store} {Kt : KE} {Xo : KX} (h : ∃ (b : Nat) (n : Int) (bag : Dat), ds = [.cell b, .int n] ∧ 0 < n ∧ n < 1073741824 ∧ S[b]? = some bag ∧ IsBag bag ∧ ∀ (k : Nat) bag', (k : Int) < n → IsBag bag' → (goK Kt) (.int k) (S.set b bag')) : sp_law_pull K ds S Kt Xo := h
theorem o_law_signs {K : PySem.W.Frag} {ds : List Dat} {S : Store} {Kt : KE} {Xo : KX} (h : ∃ (b : Nat) (bag : Dat), ds = [.cell b] ∧ S[b]? = some bag ∧ IsBag bag ∧ ∀ z bag', isAlpha z = true → IsBag bag' → (goK Kt) (.str z) (S.set b bag')) : sp_law_signs K ds S Kt Xo := h
theorem o_law_text {K : PySem.W.Frag} {ds : List Dat} {S : Store} {Kt : KE} {Xo : KX} (h : ∃ (b : Nat) (bag : Dat) (z : Str) (n : Nat), ds = [.cell b, .str z, natD n] ∧ n ≤ 1000 ∧ 0 < z.length ∧ z.length ≤ 1000 ∧ S[b]? = some bag ∧ IsBag bag ∧ ∀ t : Str, ∀ bag', t.length = n → isWord z t = true → IsBag bag' → (goK Kt) (.str t) (S.set b bag')) : sp_law_text K ds S Kt Xo := h
theorem o_is_row {K : PySem.W.Frag} {ds : List Dat} {S : Store} {Kt : KE} {Xo : KX} (h : ∃ (d : Dat) (w m : Nat), ds = [d, natD w, natD m] ∧ okRowK S d ∧ (goK Kt) (.bl (isRowB w m d)) S) : sp_is_row K ds S Kt Xo := h
theorem o_Machine_need_state {K : PySem.W.Frag} {ds : List Dat} {S : Store} {Kt : KE} {X : KX} (h : ∃ (d sv : Dat) (a : Str) (g : List (List Nat)) (s : Nat), ds = [d, sv] ∧ isMa K S d a g s ∧ ((∃ q : Nat, sv = natD q ∧ q < g.length ∧ (goK Kt) .non S) ∨ (notIn S sv g.length ∧ X (excG K "InvalidState" "given" sv) S))) : sp_Machine_need_state K ds S Kt X := h
theorem o_Machine_led {K : PySem.W.Frag} {ds : List Dat} {S : Store} {Kt : KE} {X : KX} (h : ∃ (d sv v : Dat) (a : Str) (g : List (List Nat)) (s : Nat), ds = [d, sv, v] ∧ isMa K S d a g s ∧ ((notIn S sv g.length ∧ X (excG K "InvalidState" "given" sv) S) ∨ (∃ q : Nat, sv = natD q ∧ q < g.length ∧ ((badWord S a v ∧ X (excIW K v) S) ∨ ∃ z : Str, v = .str z ∧ z.length ≤ 1000000 ∧ isWord a z = true ∧ (goK Kt) (natD (ledF a g q z.cps.toList)) S)))) : sp_Machine_led K ds S Kt X := h
theorem o_Machine_after {K : PySem.W.Frag} {ds : List Dat} {S : Store} {Kt : KE} {X : KX} (h : ∃ (d v : Dat) (a : Str) (g : List (List Nat)) (s : Nat), ds = [d, v] ∧ isMa K S d a g s ∧ ((badWord S a v ∧ X (excIW K v) S) ∨ ∃ z : Str, v = .str z ∧ z.length ≤ 1000000 ∧ isWord a z = true ∧ (goK Kt) (natD (ledF a g s z.cps.toList)) S)) : sp_Machine_after K ds S Kt X := h
theorem o_law_goals {K : PySem.W.Frag} {ds : List Dat} {S : Store} {Kt : KE} {Xo : KX} (h : ∃ (b : Nat) (bag : Dat) (m w : Nat), ds = [.cell b, natD m, natD w] ∧ 0 < m ∧ m ≤ 1000 ∧ w ≤ 1000 ∧ S[b]? = some bag ∧ IsBag bag ∧ ∀ (g : List (List Nat)) bag', g.length = m → okRows w g → IsBag bag' → (goK Kt) (.lst (g.map encRow)) (S.set b bag')) : sp_law_goals K ds S Kt Xo := h
theorem o_law_go {K : PySem.W.Frag} {ds : List Dat} {S : Store} {Kt : KE} {Xo : KX} (h : ∃ (a z : Str) (g : List (List Nat)) (q : Nat), ds = [.lst (g.map encRow), .str a, natD q, .str z] ∧ okRows a.length g ∧ q < g.length ∧ isWord a z = true ∧ a.length ≤ 1000000 ∧ z.length ≤ 1000000 ∧ (goK Kt) (natD (ledF a g q z.cps.toList)) S) : sp_law_go K ds S Kt Xo := h
theorem o_law_number_like {K : PySem.W.Frag} {ds : List Dat} {S : Store} {Kt : KE} {Xo : KX} (h : ∃ (b : Nat) (bag : Dat) (m : Nat), ds = [.cell b, natD m] ∧ S[b]? = some bag ∧ IsBag bag ∧ ∀ v bag', numLike m v → IsBag bag' → (goK Kt) v (S.set b bag')) : sp_law_number_like K ds S Kt Xo := h
theorem o_Machine_alphabet {K : PySem.W.Frag} {ds : List Dat} {S : Store} {Kt : KE} {Xo : KX} (h : ∃ (d : Dat) (a : Str) (g : List (List Nat)) (s : Nat), ds = [d] ∧ isMa K S d a g s ∧ (goK Kt) (.str a) S) : sp_Machine_alphabet K ds S Kt Xo := h
theorem o_Machine_start {K : PySem.W.Frag} {ds : List Dat} {S : Store} {Kt : KE} {Xo : KX} (h : ∃ (d : Dat) (a : Str) (g : List (List Nat)) (s : Nat), ds = [d] ∧ isMa K S d a g s ∧ (goK Kt) (natD s) S) : sp_Machine_start K ds S Kt Xo := h
theorem o_Machine_rows {K : PySem.W.Frag} {ds : List Dat} {S : Store} {Kt : KE} {Xo : KX} (h : ∃ (d : Dat) (a : Str) (g : List (List Nat)) (s : Nat), ds = [d] ∧ isMa K S d a g s ∧ (goK Kt) (.cell S.length) (S ++ [.lst (g.map encRow)])) : sp_Machine_rows K ds S Kt Xo := h
theorem o_Machine_len {K : PySem.W.Frag} {ds : List Dat} {S : Store} {Kt : KE} {Xo : KX} (h : ∃ (d : Dat) (a : Str) (g : List (List Nat)) (s : Nat), ds = [d] ∧ isMa K S d a g s ∧ (goK Kt) (natD g.length) S) : sp_Machine_len K ds S Kt Xo := h
theorem o_Machine_repr {K : PySem.W.Frag} {ds : List Dat} {S : Store} {Kt : KE} {Xo : KX} (h : ∃ (d : Dat) (a : Str) (g : List (List Nat)) (s : Nat), ds = [d] ∧ isMa K S d a g s ∧ (goK Kt) (.str (Str.append (Str.append "Machine(" (toString (g.length : Int))) " states)")) S) : sp_Machine_repr K ds S Kt Xo := h
theorem o_first_words {K : PySem.W.Frag} {ds : List Dat} {S : Store} {Kt : KE} {Xo : KX} (h : ∃ (a : Str) (g : List (List Nat)) (s : Nat), ds = [.lst (g.map encRow), .lst [natD s], .str a] ∧ okRows a.length g ∧ a.length ≤ 4 ∧ s < g.length ∧ g.length ≤ 1000 ∧ (goK Kt) (wordsD (reachF a g s)) S) : sp_first_words K ds S Kt Xo := h
theorem o_Machine_words_to_states {K : PySem.W.Frag} {ds : List Dat} {S : Store} {Kt : KE} {Xo : KX} (h : ∃ (d : Dat) (a : Str) (g : List (List Nat)) (s : Nat), ds = [d] ∧ isMa K S d a g s ∧ (goK Kt) (wordsD (reachF a g s)) S) : sp_Machine_words_to_states K ds S Kt Xo := h
theorem o_Machine_reachable {K : PySem.W.Frag} {ds : List Dat} {S : Store} {Kt : KE} {Xo : KX} (h : ∃ (d : Dat) (a : Str) (g : List (List Nat)) (s : Nat), ds = [d] ∧ isMa K S d a g s ∧ g.length < 64 ∧ ∀ ys : List Int, ys.Perm ((reachF a g s).map fun p => (p.1 : Int)) → ys.Pairwise (· ≤ ·) → (goK Kt) (.cell S.length) (S ++ [.lst (ys.map Dat.int)])) : sp_Machine_reachable K ds S Kt Xo := h
theorem o_Machine_first_word {K : PySem.W.Frag} {ds : List Dat} {S : Store} {Kt : KE} {X : KX} (h : ∃ (d sv : Dat) (a : Str) (g : List (List Nat)) (s : Nat), ds = [d, sv] ∧ isMa K S d a g s ∧ ((∃ q : Nat, sv = natD q ∧ q < g.length ∧ (goK Kt) ((valD ((reachF a g s).map kp) (.inl (q : Int))).getD .non) S) ∨ (notIn S sv g.length ∧ X (excG K "InvalidState" "given" sv) S))) : sp_Machine_first_word K ds S Kt X := h
theorem o_law_reach {K : PySem.W.Frag} {ds : List Dat} {S : Store} {Kt : KE} {Xo : KX} (h : ∃ (a : Str) (g : List (List Nat)) (s : Nat), ds = [.lst (g.map encRow), .str a, natD s] ∧ okRows a.length g ∧ a.length ≤ 4 ∧ s < g.length ∧ g.length ≤ 1000 ∧ (goK Kt) (.lst ((reachF a g s).map fun p => pairD (kp p))) S) : sp_law_reach K ds S Kt Xo := h
theorem o_small_reach {K : PySem.W.Frag} {ds : List Dat} {S : Store} {Kt : KE} {X : KX} (h : ∃ (d : Dat) (a : Str) (g : List (List Nat)) (s : Nat), ds = [d] ∧ isMa K S d a g s ∧ g.length < 64 ∧ ((6 < (reachN a g s).length ∧ X (excTM K "states" 6) S) ∨ ((reachN a g s).length ≤ 6 ∧ ∀ ys : List Int, ys.Perm (upI (reachN a g s)) → ys.Pairwise (· ≤ ·) → (goK Kt) (.lst (intDs ys)) S))) : sp_small_reach K ds S Kt X := h
theorem o_is_set {K : PySem.W.Frag} {ds : List Dat} {S : Store} {Kt : KE} {Xo : KX} (h : ∃ (ys : List Int) (R : List Nat) (v : Dat), ds = [.lst (intDs ys), v] ∧ ys.Perm (upI R) ∧ okRowK S v ∧ (goK Kt) (.bl (isSetB R v)) S) : sp_is_set K ds S Kt Xo := h
theorem o_need_set {K : PySem.W.Frag} {ds : List Dat} {S : Store} {Kt : KE} {X : KX} (h : ∃ (d v : Dat) (a : Str) (g : List (List Nat)) (s : Nat), ds = [d, v] ∧ isMa K S d a g s ∧ g.length < 64 ∧ okRowK S v ∧ goSet K S X v (reachN a g s) ((goK Kt) .non S)) : sp_need_set K ds S Kt X := h
theorem o_led_set {K : PySem.W.Frag} {ds : List Dat} {S : Store} {Kt : KE} {Xo : KX} (h : ∃ (d : Dat) (qs : List Nat) (w a : Str) (g : List (List Nat)) (s : Nat), ds = [d, .tup (intDs (upI qs)), .str w] ∧ isMa K S d a g s ∧ (∀ q ∈ qs, q < g.length) ∧ qs.length < 60 ∧ isWord a w = true ∧ w.length ≤ 1000000 ∧ (goK Kt) (.tup (intDs (ledI a g qs w))) S) : sp_led_set K ds S Kt Xo := h
theorem o_image {K : PySem.W.Frag} {ds : List Dat} {S : Store} {Kt : KE} {X : KX} (h : ∃ (d v wd : Dat) (a : Str) (g : List (List Nat)) (s : Nat), ds = [d, v, wd] ∧ isMa K S d a g s ∧ g.length < 64 ∧ okRowK S v ∧ goSet K S X v (reachN a g s) (∃ qs : List Nat, v = .tup (intDs (upI qs)) ∧ qs.length < 60 ∧ (∀ q ∈ qs, q < g.length) ∧ goWord K S X a wd fun w => ∀ ys : List Int, ys.Pairwise (· < ·) → (∀ k, k ∈ ys ↔ k ∈ ledI a g qs w) → (goK Kt) (.tup (intDs ys)) S)) : sp_image K ds S Kt X := h
theorem o_turn {K : PySem.W.Frag} {ds : List Dat} {S : Store} {Kt : KE} {X : KX} (h : ∃ (d v wd : Dat) (a : Str) (g : List (List Nat)) (s : Nat), ds = [d, v, wd] ∧ isMa K S d a g s ∧ g.length < 64 ∧ okRowK S v ∧ goSet K S X v (reachN a g s) (∃ qs : List Nat, v = .tup (intDs (upI qs)) ∧ qs.length < 60 ∧ (∀ q ∈ qs, q < g.length) ∧ goWord K S X a wd fun w => ∀ ys : List Int, ys.Perm (ledI a g qs w) → ys.Pairwise (· ≤ ·) → (goK Kt) (if ys = upI qs then .tup (intDs (ledI a g qs w)) else .non) S)) : sp_turn K ds S Kt X := h
end DL
namespace DL
open PySem L2
/-! RD: draws, and the store around a bag. -/
theorem of_str {KF : PySem.W.Frag} {b : Nat} {z : Str} {bag : Dat} {S : Store} {Kt : KE} {X : KX} (h0 : 0 < z.cps.toList.length) (hn : z.length ≤ sizeLine) (hbag : S[b]? = some bag) (hB : IsBag bag)
    (k : ∀ c bag', c ∈ z.cps.toList → IsBag bag' → Kt (.str (sgn c)) (S.set b bag')) : sp_law_of KF ([.cell b, .str z] ++ []) S Kt X :=
  ⟨b, _, _, bag, rfl, .inl ⟨z, rfl, hn, rfl⟩, fun _ _ => .inl ⟨z, rfl, hn, rfl⟩, by rw [List.length_map]; exact h0, by rw [List.length_map, cps_len]; have : sizeLine = 16777216 := rfl; omega, hbag, hB, fun i x bag' hx hB' => by
    rw [List.getElem?_map] at hx
    obtain ⟨c, hc, rfl⟩ := Option.map_eq_some_iff.mp hx
    exact k c bag' (List.mem_of_getElem? hc) hB'⟩
theorem join_cps (cs : List Nat) : (Txt.join "" (cs.map sgn)).cps.toList = cs := by
  have h1 := TL.tl_join (Str.ofString "") (cs.map sgn)
  rw [← TL.join_eq] at h1
  have h2 : ∀ z : Str, TL.tl z = z.cps.toList := fun _ => rfl
  rw [h2] at h1
  refine h1.trans ?_
  rw [List.map_map]
  have h3 : TL.tl (Str.ofString "") = [] := rfl
  rw [h3]
  clear h1 h2 h3
  induction cs with
  | nil => rfl
  | cons c r ih =>
    cases r with
    | nil => rfl
    | cons d q =>
      show [c] ++ ([] ++ TL.joinL [] ((d :: q).map (TL.tl ∘ sgn))) = _
      rw [ih]
      rfl
section
variable {S : Store} {b : Nat} {x y : Dat}
end
theorem set_here {S : Store} {b : Nat} {d : Dat} (h : S[b]? = some d) : S.set b d = S := (set_self h).symm
end DL
namespace DL
open PySem L2
local macro_rules | `(tactic| walk_at "e1") => `(tactic| with_reducible first
  | refine x_var rfl ?_ | refine x_c ?_ | refine x_op ?_ | refine x_un ?_ | refine x_nil ?_ | refine x_cons ?_ | refine x_tup ?_ | refine x_lst ?_ | refine x_lstC ?_ | refine x_cb ?_ | refine x_call ?_ | refine x_if ?_
  | refine x_test ?_ | refine x_and ?_ | refine x_or ?_ | refine x_not ?_ | refine x_tru ?_ | refine x_andV ?_ | refine x_orV ?_ | refine x_notV ?_ | refine x_yes ?_ | refine x_chain ?_
  | refine x_bm ?_ | refine x_bm0 ?_ | refine x_part ?_ | refine x_no ?_ | refine x_sl ?_ | refine x_seqI ?_ | refine x_r1 ?_ | refine x_r2 ?_ | refine x_z ?_ | refine x_lc ?_ | refine x_lcC ?_ | refine x_lcW ?_ | refine x_fld ?_ | refine x_meth ?_ | refine x_prop ?_ | refine x_make ?_ | refine x_en ?_ | refine x_makeK ?_ | refine x_give ?_ | refine x_lam ?_)
local macro_rules | `(tactic| walk_at "s1") => `(tactic| with_reducible first
  | refine x_seq ?_ | refine x_next ?_ | refine x_break ?_ | refine x_cont ?_ | refine x_drop ?_ | refine x_ret ?_ | refine x_retN ?_ | refine x_ifS ?_ | refine x_set ?_ | refine x_asg ?_ | refine x_par ?_ | refine x_gsub ?_ | refine x_gnil ?_ | refine x_gcons ?_ | refine x_setF ?_ | refine x_for ?_ | refine x_raise ?_ | refine x_rz1 ?_ | refine x_rz0 ?_)
local macro_rules | `(tactic| walk_at "g1") => `(tactic| first
  | with_reducible refine x_iteT ?_ | with_reducible refine x_iteF ?_ | with_reducible refine x_tN ?_ | with_reducible refine x_tB ?_ | with_reducible refine x_tI ?_ | with_reducible refine x_tT ?_ | with_reducible refine x_tL ?_
  | with_reducible refine x_addI ?_ | with_reducible refine x_sub ?_ | with_reducible refine x_ltI ?_ | with_reducible refine x_leI ?_ | with_reducible refine x_gtI ?_ | with_reducible refine x_geI ?_ | with_reducible refine x_ltS ?_ | with_reducible refine x_leS ?_ | with_reducible refine x_gtS ?_ | with_reducible refine x_geS ?_
  | with_reducible refine x_eqI ?_ | with_reducible refine x_eqS ?_ | with_reducible refine x_eqB ?_ | with_reducible refine x_neI ?_ | with_reducible refine x_neS ?_ | with_reducible refine x_neB ?_ | with_reducible refine x_neg ?_
  | with_reducible refine x_inS ?_ | with_reducible refine x_notinS ?_ | with_reducible refine x_intI ?_ | with_reducible refine x_intB ?_ | with_reducible refine x_abs ?_ | with_reducible refine x_slL ?_ | with_reducible refine x_slT ?_ | with_reducible refine x_min2 ?_ | with_reducible refine x_max2 ?_
  | ((with_reducible refine x_is ?_ ?_); · rfl) | ((with_reducible refine x_isnot ?_ ?_); · rfl) | ((with_reducible refine x_isiD ?_ ?_ ?_); (next => rfl); (next => decide)) | ((with_reducible refine x_isiD2 ?_ ?_ ?_ ?_); (next => rfl); (next => decide); (next => decide)) | ((with_reducible refine x_name ?_ ?_); · exact of_decide_eq_true rfl) | ((with_reducible refine x_gtup ?_ ?_); · rfl))
local macro_rules | `(tactic| walk_at "d") => `(tactic| repeat (first | walk_at "e1" | walk_at "s1" | walk_at "g1" | ((with_reducible refine x_putL ?_ ?_); · rfl) | ((with_reducible refine x_szL ?_ ?_); · rfl) | dsimp only [List.set_cons_succ, List.set_cons_zero]))
local macro_rules | `(tactic| walk_at "i") => `(tactic| repeat (first | walk_at "e1" | walk_at "s1" | walk_at "g1" | ((with_reducible refine x_putL ?_ ?_); · rfl) | ((with_reducible refine x_szL ?_ ?_); · rfl) | ((with_reducible refine x_iteT2 ?_ ?_); · rfl) | ((with_reducible refine x_iteF2 ?_ ?_); · rfl) | dsimp only [List.set_cons_succ, List.set_cons_zero]))
local macro_rules | `(tactic| walk_at "g2") => `(tactic| with_reducible first | refine x_ixt0 ?_ | refine x_ixt1 ?_ | refine x_ixt2 ?_ | refine x_ixt3 ?_ | refine x_lenT ?_)
local macro_rules | `(tactic| walk_at "j") => `(tactic| repeat (first | walk_at "e1" | walk_at "s1" | walk_at "g1" | walk_at "g2" | ((with_reducible refine x_inTi ?_ ?_); · rfl) | ((with_reducible refine x_inTn ?_ ?_); · rfl) | ((with_reducible refine x_putL ?_ ?_); · rfl) | ((with_reducible refine x_szL ?_ ?_); · rfl) | ((with_reducible refine x_iteT2 ?_ ?_); · rfl) | ((with_reducible refine x_iteF2 ?_ ?_); · rfl) | dsimp only [List.set_cons_succ, List.set_cons_zero]))
theorem r_need_alphabet {KF : PySem.W.Frag} {ds S K X} (h : sp_need_alphabet KF ds S K X) (hb : belows S.length ds) (hS : belows S.length S) : u_need_alphabet KF (endsOf S K X) (startD ["value"] ds) S := by
  obtain ⟨d, rfl, h⟩ := h
  simp only [belows] at hb
  show u_need_alphabet KF (endsOf S K X) [some d] S
  have ex : X ⟨He.ga KF "InvalidAlphabet", ["code", "given"], [.str "InvalidAlphabet", d]⟩ S → (endsOf S K X).ex ⟨He.ga KF "InvalidAlphabet", ["code", "given"], [.str "InvalidAlphabet", d]⟩ [some d] S := fun k => exitX_here (dl := [some d]) (by simp only [belows, below]; exact ⟨True.intro, hb.1, True.intro⟩) k
  unfold u_need_alphabet
  walk_at "i"
  rcases h with ⟨z, rfl, hz, ha, k⟩ | ⟨⟨z, rfl, hz, ha⟩ | hn, k⟩
  · refine .inl ⟨z, rfl, hz, ?_⟩
    rw [ha]
    walk_at "i"
    exact exit_here (by simp only [below]) k
  · refine .inl ⟨z, rfl, hz, ?_⟩
    rw [ha]
    walk_at "i"
    exact ex k
  · refine .inr ⟨d, rfl, hn, ?_⟩
    walk_at "i"
    exact ex k
theorem cutD_one {x : Dat} {xs : List Dat} : cutD (x :: xs) (some 1) none = xs := by
  have := cut_from (x :: xs) 1
  exact this
theorem belows_app {n : Nat} : ∀ {xs ys : List Dat}, belows n xs → belows n ys → belows n (xs ++ ys)
  | [], _, _, h => h
  | x :: xs, ys, h, k => by simp only [List.cons_append, belows] at h ⊢; exact ⟨h.1, belows_app h.2 k⟩
theorem bad_of {S : Store} {a : Str} {v : Dat} {KF : PySem.W.Frag} {Kt : KE} {X : KX} (h : badWord S a v) (k : Kt (.bl false) S) : sp_is_word KF [.str a, v] S Kt X := by
  rcases h with ⟨z, rfl, hz, hw⟩ | hn
  · exact ⟨a, .inl ⟨z, rfl, hz, by rw [hw]; exact k⟩⟩
  · exact ⟨a, .inr ⟨v, rfl, hn, k⟩⟩
theorem r_law_text {KF : PySem.W.Frag} {ds S K X} (h : sp_law_text KF ds S K X) (hb : belows S.length ds) (hS : belows S.length S) : u_law_text KF (endsOf S K X) (startD ["_law_bag_here", "_law_signs_here", "_law_size", "_law_k"] ds) S := by
  obtain ⟨b, bag, z, n, rfl, hn, hz0, hz, hbag, hB, k⟩ := h
  have hzl0 := cps_len z
  have hz0 : 0 < z.cps.toList.length := by omega
  have hbl : b < S.length := (List.getElem?_eq_some_iff.mp hbag).1
  show u_law_text KF (endsOf S K X) [some (.cell b), some (.str z), some (natD n), none] S
  unfold u_law_text
  walk_at "i"
  refine ⟨rfl, ?_⟩
  walk_at "i"
  refine ⟨⟨by omega, by omega⟩, ?_⟩
  refine ⟨fun j acc S1 => ∃ cs : List Nat, ∃ bag', acc = cs.map (fun c => Dat.str (sgn c)) ∧ cs.length = j ∧ (∀ c ∈ cs, c ∈ z.cps.toList) ∧ IsBag bag' ∧ S1 = S.set b bag', ⟨[], bag, rfl, rfl, fun c h => (List.not_mem_nil h).elim, hB, (set_self hbag)⟩, ?_, ?_⟩
  · rintro j d acc S2 hj ⟨cs, bag', rfl, hcl, hcs, hB', rfl⟩
    have hj2 : j < n := by
      have := (List.getElem?_eq_some_iff.mp hj).1
      simpa [rangeD] using this
    have : sizeLine = 16777216 := rfl
    refine ⟨trivial, by rw [List.length_map]; omega, ?_⟩
    dsimp only [wipeD, List.set_cons_succ, List.set_cons_zero]
    walk_at "i"
    refine of_str hz0 (by omega) (List.getElem?_set_self hbl) hB' (fun c bag2 hc hB2 => ?_)
    rw [List.set_set]
    refine ⟨cs ++ [c], bag2, by rw [List.map_append]; rfl, by rw [List.length_append, hcl]; rfl, fun q hq => ?_, hB2, rfl⟩
    rcases List.mem_append.mp hq with h | h
    · exact hcs q h
    · rw [List.mem_singleton.mp h]; exact hc
  · rintro acc S2 ⟨cs, bag', rfl, hcl, hcs, hB', rfl⟩
    refine ⟨trivial, ?_⟩
    have hcn : cs.length = n := by rw [hcl]; simp [rangeD]
    walk_at "i"
    refine x_join (ss := cs.map sgn) (by rw [List.map_map]; rfl) ?_ ?_
    · have hs : ((cs.map sgn).map (·.length)).sum = cs.length := by
        clear hcl hcs hcn
        induction cs with
        | nil => rfl
        | cons c r ih => simp only [List.map_cons, List.sum_cons, ih, List.length_cons]; show 1 + r.length = _; omega
      rw [hs, show (Str.ofString "").length = 0 from rfl]
      omega
    · refine x_rtE ?_
      have hc := join_cps cs
      exact exit_set0 hS (bag_below hB') (by simp only [below]) (k _ bag' (by rw [← cps_len, hc, hcn]) (by unfold isWord; rw [hc]; exact List.all_eq_true.mpr fun c h => decide_eq_true (hcs c h)) hB')
/-- an alphabet that is drawn -/
def isSigns (z : Str) : Prop := isAlpha z = true
def restOf (cs : List Nat) : List Nat := abc.cps.toList.filter fun c => !decide (c ∈ cs)
theorem rangeD0 (n : Nat) : rangeD 0 n = (List.range n).map (fun (i : Nat) => Dat.int (i : Int)) := by
  unfold rangeD
  refine List.map_congr_left fun i _ => ?_
  rw [Int.zero_add]
theorem alpha_len {z : Str} (h : isAlpha z = true) : z.length ≤ 4 ∧ 0 < z.length ∧ ascL z.cps.toList = true := by
  simp only [isAlpha, Bool.and_eq_true, decide_eq_true_eq] at h
  have := cps_len z
  exact ⟨by omega, by omega, h.2.2⟩
theorem same_bl {S : Store} {n : Nat} {b : Bool} : SameD S (n + 1) (.bl b) (.bl b) := .inr (.inl ⟨b, rfl, rfl⟩)
theorem same_str {S : Store} {n : Nat} {b : Str} : SameD S (n + 1) (.str b) (.str b) := .inr (.inr (.inr (.inl ⟨b, rfl, rfl⟩)))
theorem same_int {S : Store} {n : Nat} {b : Int} : SameD S (n + 1) (.int b) (.int b) := .inr (.inr (.inl ⟨b, rfl, rfl⟩))
theorem same_non {S : Store} {n : Nat} : SameD S (n + 1) .non .non := .inl ⟨rfl, rfl⟩
theorem prime_of {p : Nat} (h2 : 2 ≤ p) (h99 : p ≤ 99) (h : ∀ d ∈ [2, 3, 4, 5, 6, 7, 8, 9], d * d ≤ p → p % d ≠ 0) : isPrime (p : Int) := by
  refine ⟨by omega, fun d h1 hd e => ?_⟩
  have hd9 : d ≤ 9 := by
    by_cases q : d ≤ 9
    · exact q
    · have : 10 * 10 ≤ d * d := Int.mul_le_mul (by omega) (by omega) (by omega) (by omega)
      omega
  obtain ⟨m, rfl⟩ := Int.eq_ofNat_of_zero_le (show 0 ≤ d by omega)
  refine h m ?_ (by exact_mod_cast hd) (by exact_mod_cast e)
  have : m = 2 ∨ m = 3 ∨ m = 4 ∨ m = 5 ∨ m = 6 ∨ m = 7 ∨ m = 8 ∨ m = 9 := by omega
  simpa using this
theorem r_need_word {KF : PySem.W.Frag} {ds S K X} (h : sp_need_word KF ds S K X) (hb : belows S.length ds) (hS : belows S.length S) : u_need_word KF (endsOf S K X) (startD ["alphabet", "value"] ds) S := by
  obtain ⟨a, v, rfl, h⟩ := h
  simp only [belows] at hb
  show u_need_word KF (endsOf S K X) [some (.str a), some v] S
  unfold u_need_word
  walk_at "j"
  rcases h with ⟨z, rfl, hz, hw, k⟩ | ⟨hv, k⟩
  · refine ⟨a, .inl ⟨z, rfl, hz, ?_⟩⟩
    rw [hw]
    walk_at "j"
    exact exit_here (by simp only [below]) k
  · refine bad_of hv ?_
    walk_at "j"
    exact exitX_here (dl := [some (.str a), some v]) (by simp only [belows, below]; exact ⟨True.intro, hb.2.1, True.intro⟩) k
end DL
namespace DL
open PySem L2
local macro_rules | `(tactic| walk_at "e1") => `(tactic| with_reducible first
  | refine x_var rfl ?_ | refine x_c ?_ | refine x_op ?_ | refine x_un ?_ | refine x_nil ?_ | refine x_cons ?_ | refine x_tup ?_ | refine x_lst ?_ | refine x_lstC ?_ | refine x_cb ?_ | refine x_call ?_ | refine x_if ?_
  | refine x_test ?_ | refine x_and ?_ | refine x_or ?_ | refine x_not ?_ | refine x_tru ?_ | refine x_andV ?_ | refine x_orV ?_ | refine x_notV ?_ | refine x_yes ?_ | refine x_chain ?_
  | refine x_bm ?_ | refine x_bm0 ?_ | refine x_part ?_ | refine x_no ?_ | refine x_sl ?_ | refine x_seqI ?_ | refine x_r1 ?_ | refine x_r2 ?_ | refine x_z ?_ | refine x_lc ?_ | refine x_lcC ?_ | refine x_lcW ?_ | refine x_fld ?_ | refine x_meth ?_ | refine x_prop ?_ | refine x_make ?_ | refine x_en ?_ | refine x_makeK ?_ | refine x_give ?_ | refine x_lam ?_)
local macro_rules | `(tactic| walk_at "s1") => `(tactic| with_reducible first
  | refine x_seq ?_ | refine x_next ?_ | refine x_break ?_ | refine x_cont ?_ | refine x_drop ?_ | refine x_ret ?_ | refine x_retN ?_ | refine x_ifS ?_ | refine x_set ?_ | refine x_asg ?_ | refine x_par ?_ | refine x_gsub ?_ | refine x_gnil ?_ | refine x_gcons ?_ | refine x_setF ?_ | refine x_for ?_ | refine x_raise ?_ | refine x_rz1 ?_ | refine x_rz0 ?_)
local macro_rules | `(tactic| walk_at "g1") => `(tactic| first
  | with_reducible refine x_iteT ?_ | with_reducible refine x_iteF ?_ | with_reducible refine x_tN ?_ | with_reducible refine x_tB ?_ | with_reducible refine x_tI ?_ | with_reducible refine x_tT ?_ | with_reducible refine x_tL ?_
  | with_reducible refine x_addI ?_ | with_reducible refine x_sub ?_ | with_reducible refine x_ltI ?_ | with_reducible refine x_leI ?_ | with_reducible refine x_gtI ?_ | with_reducible refine x_geI ?_ | with_reducible refine x_ltS ?_ | with_reducible refine x_leS ?_ | with_reducible refine x_gtS ?_ | with_reducible refine x_geS ?_
  | with_reducible refine x_eqI ?_ | with_reducible refine x_eqS ?_ | with_reducible refine x_eqB ?_ | with_reducible refine x_neI ?_ | with_reducible refine x_neS ?_ | with_reducible refine x_neB ?_ | with_reducible refine x_neg ?_
  | with_reducible refine x_inS ?_ | with_reducible refine x_notinS ?_ | with_reducible refine x_intI ?_ | with_reducible refine x_intB ?_ | with_reducible refine x_abs ?_ | with_reducible refine x_slL ?_ | with_reducible refine x_slT ?_ | with_reducible refine x_min2 ?_ | with_reducible refine x_max2 ?_
  | ((with_reducible refine x_is ?_ ?_); · rfl) | ((with_reducible refine x_isnot ?_ ?_); · rfl) | ((with_reducible refine x_isiD ?_ ?_ ?_); (next => rfl); (next => decide)) | ((with_reducible refine x_isiD2 ?_ ?_ ?_ ?_); (next => rfl); (next => decide); (next => decide)) | ((with_reducible refine x_name ?_ ?_); · exact of_decide_eq_true rfl) | ((with_reducible refine x_gtup ?_ ?_); · rfl))
local macro_rules | `(tactic| walk_at "d") => `(tactic| repeat (first | walk_at "e1" | walk_at "s1" | walk_at "g1" | ((with_reducible refine x_putL ?_ ?_); · rfl) | ((with_reducible refine x_szL ?_ ?_); · rfl) | dsimp only [List.set_cons_succ, List.set_cons_zero]))
local macro_rules | `(tactic| walk_at "i") => `(tactic| repeat (first | walk_at "e1" | walk_at "s1" | walk_at "g1" | ((with_reducible refine x_putL ?_ ?_); · rfl) | ((with_reducible refine x_szL ?_ ?_); · rfl) | ((with_reducible refine x_iteT2 ?_ ?_); · rfl) | ((with_reducible refine x_iteF2 ?_ ?_); · rfl) | dsimp only [List.set_cons_succ, List.set_cons_zero]))
local macro_rules | `(tactic| walk_at "g2") => `(tactic| with_reducible first | refine x_ixt0 ?_ | refine x_ixt1 ?_ | refine x_ixt2 ?_ | refine x_ixt3 ?_ | refine x_lenT ?_)
local macro_rules | `(tactic| walk_at "j") => `(tactic| repeat (first | walk_at "e1" | walk_at "s1" | walk_at "g1" | walk_at "g2" | ((with_reducible refine x_inTi ?_ ?_); · rfl) | ((with_reducible refine x_inTn ?_ ?_); · rfl) | ((with_reducible refine x_putL ?_ ?_); · rfl) | ((with_reducible refine x_szL ?_ ?_); · rfl) | ((with_reducible refine x_iteT2 ?_ ?_); · rfl) | ((with_reducible refine x_iteF2 ?_ ?_); · rfl) | dsimp only [List.set_cons_succ, List.set_cons_zero]))
theorem isB_tup {t : String} : isB t "tuple" = decide (t = "tuple") := by
  unfold isB
  cases h : decide (t = "tuple") with
  | true => simp [of_decide_eq_true h]
  | false => simp [of_decide_eq_false h]
theorem ty_tup {S : Store} {d : Dat} (h : tyS S d = some "tuple") : ∃ xs, d = .tup xs := by
  cases d with
  | tup xs => exact ⟨xs, rfl⟩
  | cell n =>
    have h : (match S[n]? with
      | some (.lst _) => some "list"
      | some (.dct _ _) => some "dict"
      | _ => none) = some "tuple" := h
    split at h <;> simp at h
  | _ => simp [tyS] at h
theorem ty_int {S : Store} {d : Dat} (h : tyS S d = some "int") : ∃ v, d = .int v := by
  cases d with
  | int v => exact ⟨v, rfl⟩
  | cell n =>
    have h : (match S[n]? with
      | some (.lst _) => some "list"
      | some (.dct _ _) => some "dict"
      | _ => none) = some "int" := h
    split at h <;> simp at h
  | _ => simp [tyS] at h
section
variable {dl : Env'} {S : Store} {ug : UG} {tt : UT} {ue : UE} {P : Store → Prop} {own : List Nat}
theorem lc_I (xs : List Dat) {f : Dat → Dat} {G : List Dat → Store → Prop} (hP : P S) (hsz : xs.length ≤ sizeLine)
    (hs : ∀ a, a ∈ xs → ∀ (Kt : Dat → Store → Prop) (Kf : Store → Prop), Kt (f a) S →
      ug a (wipeD dl own) S (fun dl2 S3 => tt dl2 S3 (fun b S4 => if b = true then ue dl2 S4 Kt XF0 else Kf S4) XF0) XF0)
    (k : G (xs.map f) S) : ∃ I : Nat → List Dat → Store → Prop, I 0 [] S ∧
  (∀ (j : Nat) d acc S2, xs[j]? = some d → I j acc S2 → P S2 ∧ acc.length < sizeLine ∧ ug d (wipeD dl own) S2 (fun dl2 S3 => tt dl2 S3 (fun b S4 => if b = true then ue dl2 S4 (fun y S5 => I (j + 1) (acc ++ [y]) S5) XF0 else I (j + 1) acc S4) XF0) XF0) ∧
  ∀ acc S2, I xs.length acc S2 → P S2 ∧ G acc S2 := by
  have := lc_M xs id (f := f) (G := G) (dl := dl) (S := S) (ug := ug) (tt := tt) (ue := ue) (P := P) (own := own) hP hsz hs k
  simp only [List.map_id] at this
  exact this
end
/-- is_number of any data whose kind is told -/
theorem num_of {KF : PySem.W.Frag} {S : Store} {d : Dat} {lo hi : Int} {Kt : KE} {X : KX} (h : okKind S d) (k : Kt (.bl (isNumB lo hi d)) S) : sp_is_number KF [d, .int lo, .int hi] S Kt X := by
  obtain ⟨t, ht, hm⟩ := h
  by_cases e : t = "int"
  · subst e
    obtain ⟨v, rfl⟩ := ty_int ht
    exact .inl ⟨v, lo, hi, rfl, k⟩
  · refine .inr (.inr ⟨d, lo, _, rfl, ⟨t, ht, e, hm⟩, ?_⟩)
    have : isNumB lo hi d = false := by
      cases d with
      | int v => simp [tyS] at ht; exact (e ht.symm).elim
      | _ => rfl
    rw [this] at k
    exact k
theorem nats_below {n : Nat} (g : List Nat) : belows n (g.map fun (n : Nat) => Dat.int (n : Int)) := by
  rw [show (g.map fun (n : Nat) => Dat.int (n : Int)) = (g.map fun (n : Nat) => (n : Int)).map Dat.int by rw [List.map_map]; rfl]
  exact below_ints _
theorem rows_below {n : Nat} : ∀ g : List (List Nat), belows n (g.map encRow)
  | [] => by simp only [List.map_nil, belows]
  | r :: g => by simp only [List.map_cons, belows, encRow, below]; exact ⟨nats_below r, rows_below g⟩
end DL
namespace DL
open PySem L2
local macro_rules | `(tactic| walk_at "e1") => `(tactic| with_reducible first
  | refine x_var rfl ?_ | refine x_c ?_ | refine x_op ?_ | refine x_un ?_ | refine x_nil ?_ | refine x_cons ?_ | refine x_tup ?_ | refine x_lst ?_ | refine x_lstC ?_ | refine x_cb ?_ | refine x_call ?_ | refine x_if ?_
  | refine x_test ?_ | refine x_and ?_ | refine x_or ?_ | refine x_not ?_ | refine x_tru ?_ | refine x_andV ?_ | refine x_orV ?_ | refine x_notV ?_ | refine x_yes ?_ | refine x_chain ?_
  | refine x_bm ?_ | refine x_bm0 ?_ | refine x_part ?_ | refine x_no ?_ | refine x_sl ?_ | refine x_seqI ?_ | refine x_r1 ?_ | refine x_r2 ?_ | refine x_z ?_ | refine x_lc ?_ | refine x_lcC ?_ | refine x_lcW ?_ | refine x_fld ?_ | refine x_meth ?_ | refine x_prop ?_ | refine x_make ?_ | refine x_en ?_ | refine x_makeK ?_ | refine x_give ?_ | refine x_lam ?_)
local macro_rules | `(tactic| walk_at "s1") => `(tactic| with_reducible first
  | refine x_seq ?_ | refine x_next ?_ | refine x_break ?_ | refine x_cont ?_ | refine x_drop ?_ | refine x_ret ?_ | refine x_retN ?_ | refine x_ifS ?_ | refine x_set ?_ | refine x_asg ?_ | refine x_par ?_ | refine x_gsub ?_ | refine x_gnil ?_ | refine x_gcons ?_ | refine x_setF ?_ | refine x_for ?_ | refine x_raise ?_ | refine x_rz1 ?_ | refine x_rz0 ?_)
local macro_rules | `(tactic| walk_at "g1") => `(tactic| first
  | with_reducible refine x_iteT ?_ | with_reducible refine x_iteF ?_ | with_reducible refine x_tN ?_ | with_reducible refine x_tB ?_ | with_reducible refine x_tI ?_ | with_reducible refine x_tT ?_ | with_reducible refine x_tL ?_
  | with_reducible refine x_addI ?_ | with_reducible refine x_sub ?_ | with_reducible refine x_ltI ?_ | with_reducible refine x_leI ?_ | with_reducible refine x_gtI ?_ | with_reducible refine x_geI ?_ | with_reducible refine x_ltS ?_ | with_reducible refine x_leS ?_ | with_reducible refine x_gtS ?_ | with_reducible refine x_geS ?_
  | with_reducible refine x_eqI ?_ | with_reducible refine x_eqS ?_ | with_reducible refine x_eqB ?_ | with_reducible refine x_neI ?_ | with_reducible refine x_neS ?_ | with_reducible refine x_neB ?_ | with_reducible refine x_neg ?_
  | with_reducible refine x_inS ?_ | with_reducible refine x_notinS ?_ | with_reducible refine x_intI ?_ | with_reducible refine x_intB ?_ | with_reducible refine x_abs ?_ | with_reducible refine x_slL ?_ | with_reducible refine x_slT ?_ | with_reducible refine x_min2 ?_ | with_reducible refine x_max2 ?_
  | ((with_reducible refine x_is ?_ ?_); · rfl) | ((with_reducible refine x_isnot ?_ ?_); · rfl) | ((with_reducible refine x_isiD ?_ ?_ ?_); (next => rfl); (next => decide)) | ((with_reducible refine x_isiD2 ?_ ?_ ?_ ?_); (next => rfl); (next => decide); (next => decide)) | ((with_reducible refine x_name ?_ ?_); · exact of_decide_eq_true rfl) | ((with_reducible refine x_gtup ?_ ?_); · rfl))
local macro_rules | `(tactic| walk_at "d") => `(tactic| repeat (first | walk_at "e1" | walk_at "s1" | walk_at "g1" | ((with_reducible refine x_putL ?_ ?_); · rfl) | ((with_reducible refine x_szL ?_ ?_); · rfl) | dsimp only [List.set_cons_succ, List.set_cons_zero]))
local macro_rules | `(tactic| walk_at "i") => `(tactic| repeat (first | walk_at "e1" | walk_at "s1" | walk_at "g1" | ((with_reducible refine x_putL ?_ ?_); · rfl) | ((with_reducible refine x_szL ?_ ?_); · rfl) | ((with_reducible refine x_iteT2 ?_ ?_); · rfl) | ((with_reducible refine x_iteF2 ?_ ?_); · rfl) | dsimp only [List.set_cons_succ, List.set_cons_zero]))
local macro_rules | `(tactic| walk_at "g2") => `(tactic| with_reducible first | refine x_ixt0 ?_ | refine x_ixt1 ?_ | refine x_ixt2 ?_ | refine x_ixt3 ?_ | refine x_lenT ?_)
local macro_rules | `(tactic| walk_at "j") => `(tactic| repeat (first | walk_at "e1" | walk_at "s1" | walk_at "g1" | walk_at "g2" | ((with_reducible refine x_inTi ?_ ?_); · rfl) | ((with_reducible refine x_inTn ?_ ?_); · rfl) | ((with_reducible refine x_putL ?_ ?_); · rfl) | ((with_reducible refine x_szL ?_ ?_); · rfl) | ((with_reducible refine x_iteT2 ?_ ?_); · rfl) | ((with_reducible refine x_iteF2 ?_ ?_); · rfl) | dsimp only [List.set_cons_succ, List.set_cons_zero]))
theorem enum0 {α : Type} (e : α → Dat) (xs : List α) : enumD 0 (xs.map e) = (xs.zipIdx 0).map fun p => .tup [.int ((p.2 : Nat) : Int), e p.1] := enumD_map e xs 0
theorem enumI (xs : List Dat) : enumD 0 xs = (xs.zipIdx 0).map fun p => .tup [.int ((p.2 : Nat) : Int), p.1] := by
  have := enumD_map id xs 0
  rw [List.map_id] at this
  exact this
theorem zipI_split {α : Type} {ls : List α} {pre rest : List (α × Nat)} {l : α} {i : Nat} (h : ls.zipIdx 0 = pre ++ (l, i) :: rest) : i = pre.length ∧ ls[i]? = some l := by
  have h1 : (ls.zipIdx 0)[pre.length]? = some (l, i) := by rw [h]; simp
  rw [List.getElem?_zipIdx] at h1
  cases e : ls[pre.length]? with
  | none => rw [e] at h1; cases h1
  | some l' =>
    rw [e] at h1
    simp at h1
    obtain ⟨rfl, rfl⟩ := h1
    exact ⟨rfl, e⟩
theorem seq_ty {S : Store} {d : Dat} {rs : List Dat} (h : seqD S d = some rs) : ∃ t, tyS S d = some t ∧ (t = "list" ∨ t = "tuple") := by
  cases d with
  | tup xs => exact ⟨_, rfl, .inr rfl⟩
  | lst xs => exact ⟨_, rfl, .inl rfl⟩
  | cell n =>
    cases e : S[n]? with
    | none => simp only [seqD, e] at h; cases h
    | some c =>
      cases c with
      | lst xs => exact ⟨"list", by simp only [tyS, e], .inl rfl⟩
      | _ => simp only [seqD, e] at h; cases h
  | _ => simp only [seqD] at h; cases h
theorem isi_seq {KF : PySem.W.Frag} {S : Store} {K : KE} {d : Dat} {rs : List Dat} (h : seqD S d = some rs) (k : K (.bl true) S) : gIsi KF [d, .tup [.raw (.ty "list"), .raw (.ty "tuple")]] S K := by
  obtain ⟨t, ht, hh⟩ := seq_ty h
  refine x_isi2 ht (by decide) (by decide) ?_
  rcases hh with rfl | rfl <;> exact k
theorem seq_draw {S : Store} {d : Dat} {rs : List Dat} (h : seqD S d = some rs) : drawD S d = some rs := by
  cases d with
  | str z => cases h
  | _ => exact h
theorem led_snoc (a : Str) (g : List (List Nat)) (q : Nat) (w : List Nat) (c : Nat) : ledF a g q (w ++ [c]) = (g.getD (ledF a g q w) []).getD (a.cps.toList.idxOf c) 0 := by
  unfold ledF
  rw [List.foldl_append]; rfl
theorem need_bad {KF : PySem.W.Frag} {S : Store} {a : Str} {v : Dat} {Kt : KE} {X : KX} (h : badWord S a v) (k : X (excIW KF v) S) : sp_need_word KF [.str a, v] S Kt X := ⟨a, v, rfl, .inr ⟨h, k⟩⟩
end DL
namespace DL
open PySem L2
local macro_rules | `(tactic| walk_at "e1") => `(tactic| with_reducible first
  | refine x_var rfl ?_ | refine x_c ?_ | refine x_op ?_ | refine x_un ?_ | refine x_nil ?_ | refine x_cons ?_ | refine x_tup ?_ | refine x_lst ?_ | refine x_lstC ?_ | refine x_cb ?_ | refine x_call ?_ | refine x_if ?_
  | refine x_test ?_ | refine x_and ?_ | refine x_or ?_ | refine x_not ?_ | refine x_tru ?_ | refine x_andV ?_ | refine x_orV ?_ | refine x_notV ?_ | refine x_yes ?_ | refine x_chain ?_
  | refine x_bm ?_ | refine x_bm0 ?_ | refine x_part ?_ | refine x_no ?_ | refine x_sl ?_ | refine x_seqI ?_ | refine x_r1 ?_ | refine x_r2 ?_ | refine x_z ?_ | refine x_lc ?_ | refine x_lcC ?_ | refine x_lcW ?_ | refine x_fld ?_ | refine x_meth ?_ | refine x_prop ?_ | refine x_make ?_ | refine x_en ?_ | refine x_makeK ?_ | refine x_joined ?_ | refine x_jn ?_ | refine x_jc ?_ | refine x_enK ?_ | refine x_give ?_ | refine x_lam ?_)
local macro_rules | `(tactic| walk_at "s1") => `(tactic| with_reducible first
  | refine x_seq ?_ | refine x_next ?_ | refine x_break ?_ | refine x_cont ?_ | refine x_drop ?_ | refine x_ret ?_ | refine x_retN ?_ | refine x_ifS ?_ | refine x_set ?_ | refine x_asg ?_ | refine x_par ?_ | refine x_gsub ?_ | refine x_gnil ?_ | refine x_gcons ?_ | refine x_setF ?_ | refine x_for ?_ | refine x_raise ?_ | refine x_rz1 ?_ | refine x_rz0 ?_)
local macro_rules | `(tactic| walk_at "g1") => `(tactic| first
  | with_reducible refine x_iteT ?_ | with_reducible refine x_iteF ?_ | with_reducible refine x_tN ?_ | with_reducible refine x_tB ?_ | with_reducible refine x_tI ?_ | with_reducible refine x_tT ?_ | with_reducible refine x_tL ?_
  | with_reducible refine x_addI ?_ | with_reducible refine x_sub ?_ | with_reducible refine x_ltI ?_ | with_reducible refine x_leI ?_ | with_reducible refine x_gtI ?_ | with_reducible refine x_geI ?_ | with_reducible refine x_ltS ?_ | with_reducible refine x_leS ?_ | with_reducible refine x_gtS ?_ | with_reducible refine x_geS ?_
  | with_reducible refine x_eqI ?_ | with_reducible refine x_eqS ?_ | with_reducible refine x_eqB ?_ | with_reducible refine x_neI ?_ | with_reducible refine x_neS ?_ | with_reducible refine x_neB ?_ | with_reducible refine x_neg ?_
  | with_reducible refine x_inS ?_ | with_reducible refine x_notinS ?_ | with_reducible refine x_intI ?_ | with_reducible refine x_intB ?_ | with_reducible refine x_abs ?_ | with_reducible refine x_slL ?_ | with_reducible refine x_slT ?_ | with_reducible refine x_min2 ?_ | with_reducible refine x_max2 ?_
  | ((with_reducible refine x_is ?_ ?_); · rfl) | ((with_reducible refine x_isnot ?_ ?_); · rfl) | ((with_reducible refine x_isiD ?_ ?_ ?_); (next => rfl); (next => decide)) | ((with_reducible refine x_isiD2 ?_ ?_ ?_ ?_); (next => rfl); (next => decide); (next => decide)) | ((with_reducible refine x_name ?_ ?_); · exact of_decide_eq_true rfl) | ((with_reducible refine x_gtup ?_ ?_); · rfl))
local macro_rules | `(tactic| walk_at "d") => `(tactic| repeat (first | walk_at "e1" | walk_at "s1" | walk_at "g1" | ((with_reducible refine x_putL ?_ ?_); · rfl) | ((with_reducible refine x_szL ?_ ?_); · rfl) | dsimp only [List.set_cons_succ, List.set_cons_zero]))
local macro_rules | `(tactic| walk_at "i") => `(tactic| repeat (first | walk_at "e1" | walk_at "s1" | walk_at "g1" | ((with_reducible refine x_putL ?_ ?_); · rfl) | ((with_reducible refine x_szL ?_ ?_); · rfl) | ((with_reducible refine x_iteT2 ?_ ?_); · rfl) | ((with_reducible refine x_iteF2 ?_ ?_); · rfl) | dsimp only [List.set_cons_succ, List.set_cons_zero]))
local macro_rules | `(tactic| walk_at "g2") => `(tactic| with_reducible first | refine x_ixt0 ?_ | refine x_ixt1 ?_ | refine x_ixt2 ?_ | refine x_ixt3 ?_ | refine x_lenT ?_)
local macro_rules | `(tactic| walk_at "j") => `(tactic| repeat (first | walk_at "e1" | walk_at "s1" | walk_at "g1" | walk_at "g2" | ((with_reducible refine x_inTi ?_ ?_); · rfl) | ((with_reducible refine x_inTn ?_ ?_); · rfl) | ((with_reducible refine x_putL ?_ ?_); · rfl) | ((with_reducible refine x_szL ?_ ?_); · rfl) | ((with_reducible refine x_iteT2 ?_ ?_); · rfl) | ((with_reducible refine x_iteF2 ?_ ?_); · rfl) | dsimp only [List.set_cons_succ, List.set_cons_zero]))
end DL
namespace DL
open PySem L2
local macro_rules | `(tactic| walk_at "e1") => `(tactic| with_reducible first
  | refine x_var rfl ?_ | refine x_c ?_ | refine x_op ?_ | refine x_un ?_ | refine x_nil ?_ | refine x_cons ?_ | refine x_tup ?_ | refine x_lst ?_ | refine x_lstC ?_ | refine x_cb ?_ | refine x_call ?_ | refine x_if ?_
  | refine x_test ?_ | refine x_and ?_ | refine x_or ?_ | refine x_not ?_ | refine x_tru ?_ | refine x_andV ?_ | refine x_orV ?_ | refine x_notV ?_ | refine x_yes ?_ | refine x_chain ?_
  | refine x_bm ?_ | refine x_bm0 ?_ | refine x_part ?_ | refine x_no ?_ | refine x_sl ?_ | refine x_seqI ?_ | refine x_r1 ?_ | refine x_r2 ?_ | refine x_z ?_ | refine x_lc ?_ | refine x_lcC ?_ | refine x_lcW ?_ | refine x_fld ?_ | refine x_meth ?_ | refine x_prop ?_ | refine x_make ?_ | refine x_en ?_ | refine x_makeK ?_ | refine x_give ?_ | refine x_lam ?_)
local macro_rules | `(tactic| walk_at "s1") => `(tactic| with_reducible first
  | refine x_seq ?_ | refine x_next ?_ | refine x_break ?_ | refine x_cont ?_ | refine x_drop ?_ | refine x_ret ?_ | refine x_retN ?_ | refine x_ifS ?_ | refine x_set ?_ | refine x_asg ?_ | refine x_par ?_ | refine x_gsub ?_ | refine x_gnil ?_ | refine x_gcons ?_ | refine x_setF ?_ | refine x_for ?_ | refine x_raise ?_ | refine x_rz1 ?_ | refine x_rz0 ?_)
local macro_rules | `(tactic| walk_at "g1") => `(tactic| first
  | with_reducible refine x_iteT ?_ | with_reducible refine x_iteF ?_ | with_reducible refine x_tN ?_ | with_reducible refine x_tB ?_ | with_reducible refine x_tI ?_ | with_reducible refine x_tT ?_ | with_reducible refine x_tL ?_
  | with_reducible refine x_addI ?_ | with_reducible refine x_sub ?_ | with_reducible refine x_ltI ?_ | with_reducible refine x_leI ?_ | with_reducible refine x_gtI ?_ | with_reducible refine x_geI ?_ | with_reducible refine x_ltS ?_ | with_reducible refine x_leS ?_ | with_reducible refine x_gtS ?_ | with_reducible refine x_geS ?_
  | with_reducible refine x_eqI ?_ | with_reducible refine x_eqS ?_ | with_reducible refine x_eqB ?_ | with_reducible refine x_neI ?_ | with_reducible refine x_neS ?_ | with_reducible refine x_neB ?_ | with_reducible refine x_neg ?_
  | with_reducible refine x_inS ?_ | with_reducible refine x_notinS ?_ | with_reducible refine x_intI ?_ | with_reducible refine x_intB ?_ | with_reducible refine x_abs ?_ | with_reducible refine x_slL ?_ | with_reducible refine x_slT ?_ | with_reducible refine x_min2 ?_ | with_reducible refine x_max2 ?_
  | ((with_reducible refine x_is ?_ ?_); · rfl) | ((with_reducible refine x_isnot ?_ ?_); · rfl) | ((with_reducible refine x_isiD ?_ ?_ ?_); (next => rfl); (next => decide)) | ((with_reducible refine x_isiD2 ?_ ?_ ?_ ?_); (next => rfl); (next => decide); (next => decide)) | ((with_reducible refine x_name ?_ ?_); · exact of_decide_eq_true rfl) | ((with_reducible refine x_gtup ?_ ?_); · rfl))
local macro_rules | `(tactic| walk_at "d") => `(tactic| repeat (first | walk_at "e1" | walk_at "s1" | walk_at "g1" | ((with_reducible refine x_putL ?_ ?_); · rfl) | ((with_reducible refine x_szL ?_ ?_); · rfl) | dsimp only [List.set_cons_succ, List.set_cons_zero]))
local macro_rules | `(tactic| walk_at "i") => `(tactic| repeat (first | walk_at "e1" | walk_at "s1" | walk_at "g1" | ((with_reducible refine x_putL ?_ ?_); · rfl) | ((with_reducible refine x_szL ?_ ?_); · rfl) | ((with_reducible refine x_iteT2 ?_ ?_); · rfl) | ((with_reducible refine x_iteF2 ?_ ?_); · rfl) | dsimp only [List.set_cons_succ, List.set_cons_zero]))
local macro_rules | `(tactic| walk_at "g2") => `(tactic| with_reducible first | refine x_ixt0 ?_ | refine x_ixt1 ?_ | refine x_ixt2 ?_ | refine x_ixt3 ?_ | refine x_lenT ?_)
local macro_rules | `(tactic| walk_at "j") => `(tactic| repeat (first | walk_at "e1" | walk_at "s1" | walk_at "g1" | walk_at "g2" | ((with_reducible refine x_inTi ?_ ?_); · rfl) | ((with_reducible refine x_inTn ?_ ?_); · rfl) | ((with_reducible refine x_putL ?_ ?_); · rfl) | ((with_reducible refine x_szL ?_ ?_); · rfl) | ((with_reducible refine x_iteT2 ?_ ?_); · rfl) | ((with_reducible refine x_iteF2 ?_ ?_); · rfl) | dsimp only [List.set_cons_succ, List.set_cons_zero]))
/-- data that is no word over z, told by its copy -/
structure NoWord (z : Str) (v : Dat) : Prop where
  bad : ∀ S, badWord S z v
  same : ∀ S n, SameD S (n + 2) v v
  bel : ∀ n, below n v
end DL
namespace DL
open PySem L2
local macro_rules | `(tactic| walk_at "e1") => `(tactic| with_reducible first
  | refine x_var rfl ?_ | refine x_c ?_ | refine x_op ?_ | refine x_un ?_ | refine x_nil ?_ | refine x_cons ?_ | refine x_tup ?_ | refine x_lst ?_ | refine x_lstC ?_ | refine x_cb ?_ | refine x_call ?_ | refine x_if ?_
  | refine x_test ?_ | refine x_and ?_ | refine x_or ?_ | refine x_not ?_ | refine x_tru ?_ | refine x_andV ?_ | refine x_orV ?_ | refine x_notV ?_ | refine x_yes ?_ | refine x_chain ?_
  | refine x_bm ?_ | refine x_bm0 ?_ | refine x_part ?_ | refine x_no ?_ | refine x_sl ?_ | refine x_seqI ?_ | refine x_r1 ?_ | refine x_r2 ?_ | refine x_z ?_ | refine x_lc ?_ | refine x_lcC ?_ | refine x_lcW ?_ | refine x_fld ?_ | refine x_meth ?_ | refine x_prop ?_ | refine x_make ?_ | refine x_en ?_ | refine x_makeK ?_ | refine x_joined ?_ | refine x_jn ?_ | refine x_jc ?_ | refine x_enK ?_ | refine x_give ?_ | refine x_lam ?_)
local macro_rules | `(tactic| walk_at "s1") => `(tactic| with_reducible first
  | refine x_seq ?_ | refine x_next ?_ | refine x_break ?_ | refine x_cont ?_ | refine x_drop ?_ | refine x_ret ?_ | refine x_retN ?_ | refine x_ifS ?_ | refine x_set ?_ | refine x_asg ?_ | refine x_par ?_ | refine x_gsub ?_ | refine x_gnil ?_ | refine x_gcons ?_ | refine x_setF ?_ | refine x_for ?_ | refine x_raise ?_ | refine x_rz1 ?_ | refine x_rz0 ?_)
local macro_rules | `(tactic| walk_at "g1") => `(tactic| first
  | with_reducible refine x_iteT ?_ | with_reducible refine x_iteF ?_ | with_reducible refine x_tN ?_ | with_reducible refine x_tB ?_ | with_reducible refine x_tI ?_ | with_reducible refine x_tT ?_ | with_reducible refine x_tL ?_
  | with_reducible refine x_addI ?_ | with_reducible refine x_sub ?_ | with_reducible refine x_ltI ?_ | with_reducible refine x_leI ?_ | with_reducible refine x_gtI ?_ | with_reducible refine x_geI ?_ | with_reducible refine x_ltS ?_ | with_reducible refine x_leS ?_ | with_reducible refine x_gtS ?_ | with_reducible refine x_geS ?_
  | with_reducible refine x_eqI ?_ | with_reducible refine x_eqS ?_ | with_reducible refine x_eqB ?_ | with_reducible refine x_neI ?_ | with_reducible refine x_neS ?_ | with_reducible refine x_neB ?_ | with_reducible refine x_neg ?_
  | with_reducible refine x_inS ?_ | with_reducible refine x_notinS ?_ | with_reducible refine x_intI ?_ | with_reducible refine x_intB ?_ | with_reducible refine x_abs ?_ | with_reducible refine x_slL ?_ | with_reducible refine x_slT ?_ | with_reducible refine x_min2 ?_ | with_reducible refine x_max2 ?_
  | ((with_reducible refine x_is ?_ ?_); · rfl) | ((with_reducible refine x_isnot ?_ ?_); · rfl) | ((with_reducible refine x_isiD ?_ ?_ ?_); (next => rfl); (next => decide)) | ((with_reducible refine x_isiD2 ?_ ?_ ?_ ?_); (next => rfl); (next => decide); (next => decide)) | ((with_reducible refine x_name ?_ ?_); · exact of_decide_eq_true rfl) | ((with_reducible refine x_gtup ?_ ?_); · rfl))
local macro_rules | `(tactic| walk_at "d") => `(tactic| repeat (first | walk_at "e1" | walk_at "s1" | walk_at "g1" | ((with_reducible refine x_putL ?_ ?_); · rfl) | ((with_reducible refine x_szL ?_ ?_); · rfl) | dsimp only [List.set_cons_succ, List.set_cons_zero]))
local macro_rules | `(tactic| walk_at "i") => `(tactic| repeat (first | walk_at "e1" | walk_at "s1" | walk_at "g1" | ((with_reducible refine x_putL ?_ ?_); · rfl) | ((with_reducible refine x_szL ?_ ?_); · rfl) | ((with_reducible refine x_iteT2 ?_ ?_); · rfl) | ((with_reducible refine x_iteF2 ?_ ?_); · rfl) | dsimp only [List.set_cons_succ, List.set_cons_zero]))
local macro_rules | `(tactic| walk_at "g2") => `(tactic| with_reducible first | refine x_ixt0 ?_ | refine x_ixt1 ?_ | refine x_ixt2 ?_ | refine x_ixt3 ?_ | refine x_lenT ?_)
local macro_rules | `(tactic| walk_at "j") => `(tactic| repeat (first | walk_at "e1" | walk_at "s1" | walk_at "g1" | walk_at "g2" | ((with_reducible refine x_inTi ?_ ?_); · rfl) | ((with_reducible refine x_inTn ?_ ?_); · rfl) | ((with_reducible refine x_putL ?_ ?_); · rfl) | ((with_reducible refine x_szL ?_ ?_); · rfl) | ((with_reducible refine x_iteT2 ?_ ?_); · rfl) | ((with_reducible refine x_iteF2 ?_ ?_); · rfl) | dsimp only [List.set_cons_succ, List.set_cons_zero]))
structure NoState (m : Nat) (v : Dat) : Prop where
  bad : ∀ S, notIn S v m
  same : ∀ S n, SameD S (n + 2) v v
  bel : ∀ n, below n v
end DL
namespace DL
open PySem L2
local macro_rules | `(tactic| walk_at "e1") => `(tactic| with_reducible first
  | refine x_var rfl ?_ | refine x_c ?_ | refine x_op ?_ | refine x_un ?_ | refine x_nil ?_ | refine x_cons ?_ | refine x_tup ?_ | refine x_lst ?_ | refine x_lstC ?_ | refine x_cb ?_ | refine x_call ?_ | refine x_if ?_
  | refine x_test ?_ | refine x_and ?_ | refine x_or ?_ | refine x_not ?_ | refine x_tru ?_ | refine x_andV ?_ | refine x_orV ?_ | refine x_notV ?_ | refine x_yes ?_ | refine x_chain ?_
  | refine x_bm ?_ | refine x_bm0 ?_ | refine x_part ?_ | refine x_no ?_ | refine x_sl ?_ | refine x_seqI ?_ | refine x_r1 ?_ | refine x_r2 ?_ | refine x_z ?_ | refine x_lc ?_ | refine x_lcC ?_ | refine x_lcW ?_ | refine x_fld ?_ | refine x_meth ?_ | refine x_prop ?_ | refine x_make ?_ | refine x_en ?_ | refine x_makeK ?_ | refine x_joined ?_ | refine x_jn ?_ | refine x_jc ?_ | refine x_enK ?_ | refine x_give ?_ | refine x_lam ?_)
local macro_rules | `(tactic| walk_at "s1") => `(tactic| with_reducible first
  | refine x_seq ?_ | refine x_next ?_ | refine x_break ?_ | refine x_cont ?_ | refine x_drop ?_ | refine x_ret ?_ | refine x_retN ?_ | refine x_ifS ?_ | refine x_set ?_ | refine x_asg ?_ | refine x_par ?_ | refine x_gsub ?_ | refine x_gnil ?_ | refine x_gcons ?_ | refine x_setF ?_ | refine x_for ?_ | refine x_raise ?_ | refine x_rz1 ?_ | refine x_rz0 ?_)
local macro_rules | `(tactic| walk_at "g1") => `(tactic| first
  | with_reducible refine x_iteT ?_ | with_reducible refine x_iteF ?_ | with_reducible refine x_tN ?_ | with_reducible refine x_tB ?_ | with_reducible refine x_tI ?_ | with_reducible refine x_tT ?_ | with_reducible refine x_tL ?_
  | with_reducible refine x_addI ?_ | with_reducible refine x_sub ?_ | with_reducible refine x_ltI ?_ | with_reducible refine x_leI ?_ | with_reducible refine x_gtI ?_ | with_reducible refine x_geI ?_ | with_reducible refine x_ltS ?_ | with_reducible refine x_leS ?_ | with_reducible refine x_gtS ?_ | with_reducible refine x_geS ?_
  | with_reducible refine x_eqI ?_ | with_reducible refine x_eqS ?_ | with_reducible refine x_eqB ?_ | with_reducible refine x_neI ?_ | with_reducible refine x_neS ?_ | with_reducible refine x_neB ?_ | with_reducible refine x_neg ?_
  | with_reducible refine x_inS ?_ | with_reducible refine x_notinS ?_ | with_reducible refine x_intI ?_ | with_reducible refine x_intB ?_ | with_reducible refine x_abs ?_ | with_reducible refine x_slL ?_ | with_reducible refine x_slT ?_ | with_reducible refine x_min2 ?_ | with_reducible refine x_max2 ?_
  | ((with_reducible refine x_is ?_ ?_); · rfl) | ((with_reducible refine x_isnot ?_ ?_); · rfl) | ((with_reducible refine x_isiD ?_ ?_ ?_); (next => rfl); (next => decide)) | ((with_reducible refine x_isiD2 ?_ ?_ ?_ ?_); (next => rfl); (next => decide); (next => decide)) | ((with_reducible refine x_name ?_ ?_); · exact of_decide_eq_true rfl) | ((with_reducible refine x_gtup ?_ ?_); · rfl))
local macro_rules | `(tactic| walk_at "d") => `(tactic| repeat (first | walk_at "e1" | walk_at "s1" | walk_at "g1" | ((with_reducible refine x_putL ?_ ?_); · rfl) | ((with_reducible refine x_szL ?_ ?_); · rfl) | dsimp only [List.set_cons_succ, List.set_cons_zero]))
local macro_rules | `(tactic| walk_at "i") => `(tactic| repeat (first | walk_at "e1" | walk_at "s1" | walk_at "g1" | ((with_reducible refine x_putL ?_ ?_); · rfl) | ((with_reducible refine x_szL ?_ ?_); · rfl) | ((with_reducible refine x_iteT2 ?_ ?_); · rfl) | ((with_reducible refine x_iteF2 ?_ ?_); · rfl) | dsimp only [List.set_cons_succ, List.set_cons_zero]))
local macro_rules | `(tactic| walk_at "g2") => `(tactic| with_reducible first | refine x_ixt0 ?_ | refine x_ixt1 ?_ | refine x_ixt2 ?_ | refine x_ixt3 ?_ | refine x_lenT ?_)
local macro_rules | `(tactic| walk_at "j") => `(tactic| repeat (first | walk_at "e1" | walk_at "s1" | walk_at "g1" | walk_at "g2" | ((with_reducible refine x_inTi ?_ ?_); · rfl) | ((with_reducible refine x_inTn ?_ ?_); · rfl) | ((with_reducible refine x_putL ?_ ?_); · rfl) | ((with_reducible refine x_szL ?_ ?_); · rfl) | ((with_reducible refine x_iteT2 ?_ ?_); · rfl) | ((with_reducible refine x_iteF2 ?_ ?_); · rfl) | dsimp only [List.set_cons_succ, List.set_cons_zero]))
/-! making machines -/
section
variable {KF : PySem.W.Frag} {S : Store} {K : KE} {XX : KX} {Kt : KE} {z : Str} {g : List (List Nat)} {s : Nat} {d sv av : Dat}
end
/-- data that is no row of width w below m -/
structure BadRow (w m : Nat) (v : Dat) : Prop where
  kind : ∀ S, okRowK S v
  bad : isRowB w m v = false
  bel : ∀ n, below n v
structure NoRows (v : Dat) : Prop where
  bad : ∀ S, notSeq S v ∨ seqD S v = some []
  bel : ∀ n, below n v
structure NoAlpha (v : Dat) : Prop where
  bad : ∀ S, badAlpha S v
  same : ∀ S n, SameD S (n + 1) v v
  bel : ∀ n, below n v
abbrev natDs (g : List Nat) : List Dat := g.map fun (n : Nat) => Dat.int (n : Int)
inductive All2 (P : Dat → Dat → Prop) : List Dat → List Dat → Prop where
  | nil : All2 P [] []
  | cons {a b : Dat} {xs ys : List Dat} (h : P a b) (r : All2 P xs ys) : All2 P (a :: xs) (b :: ys)
theorem All2.len {P : Dat → Dat → Prop} {xs ys : List Dat} (h : All2 P xs ys) : xs.length = ys.length := by
  induction h with
  | nil => rfl
  | cons _ _ ih => rw [List.length_cons, List.length_cons, ih]
theorem same_ls {S : Store} {n : Nat} {x y : Dat} {xs ys : List Dat} (hx : lstD S x = some xs) (hy : lstD S y = some ys) (hn : xs.length ≤ 1000000) (h : All2 (SameD S n) xs ys) : SameD S (n + 1) x y := by
  have szl : sizeLine = 16777216 := rfl
  refine .inr (.inr (.inr (.inr (.inr ⟨xs, ys, hx, hy, h.len, by omega, fun i a b e1 e2 => ?_⟩))))
  have key : ∀ {xs ys : List Dat}, All2 (SameD S n) xs ys → ∀ (i : Nat) a b, xs[i]? = some a → ys[i]? = some b → SameD S n a b := by
    intro xs ys h
    induction h with
    | nil => intro i a b e; cases e
    | cons h _ ih =>
      intro i a b e1 e2
      cases i with
      | zero => cases e1; cases e2; exact h
      | succ i => exact ih i a b e1 e2
  exact key h i a b e1 e2
theorem all2_self {S : Store} {n : Nat} : ∀ {xs : List Dat}, (∀ x ∈ xs, SameD S n x x) → All2 (SameD S n) xs xs
  | [], _ => .nil
  | x :: xs, h => .cons (h x List.mem_cons_self) (all2_self fun y hy => h y (List.mem_cons_of_mem _ hy))
theorem cut_rows_from {α : Type} (e : α → Dat) (g : List α) (i : Nat) : cutD (g.map e) (some (i : Int)) none = (g.drop i).map e := by
  rw [cutD_map, cut_from]
end DL
/-! RW1: the plain law of the search. -/
namespace DL
open PySem L2
theorem nodup_lt : ∀ (m : Nat) (l : List Nat), l.Nodup → (∀ x ∈ l, x < m) → l.length ≤ m
  | 0, [], _, _ => Nat.le_refl _
  | 0, x :: _, _, h => absurd (h x List.mem_cons_self) (Nat.not_lt_zero _)
  | m + 1, l, nd, h => by
    have h1 := nodup_lt m (l.erase m) (nd.erase m) (fun x hx => by
      obtain ⟨h2, h3⟩ := nd.mem_erase_iff.mp hx
      have := h x h3
      omega)
    by_cases e : m ∈ l
    · have := List.length_erase_of_mem e
      omega
    · rw [List.erase_of_not_mem e] at h1
      omega
structure BOk (m : Nat) (ps : List (Nat × Str)) : Prop where
  nd : (ps.map (·.1)).Nodup
  lt : ∀ p ∈ ps, p.1 < m
  wl : ∀ p ∈ ps, p.2.length < ps.length
theorem BOk.len {m : Nat} {ps : List (Nat × Str)} (h : BOk m ps) : ps.length ≤ m := by
  have := nodup_lt m (ps.map (·.1)) h.nd fun x hx => by
    obtain ⟨p, hp, rfl⟩ := List.mem_map.mp hx
    exact h.lt p hp
  rwa [List.length_map] at this
theorem str_appL (a b : Str) : (a ++ b).length = a.length + b.length := by
  rw [← cps_len, ← cps_len, ← cps_len]
  show (a.cps ++ b.cps).toList.length = _
  rw [Array.toList_append, List.length_append]
theorem sgn_len (c : Nat) : (sgn c).length = 1 := rfl
theorem BOk.snoc {m q c : Nat} {w : Str} {ps : List (Nat × Str)} (h : BOk m ps) (hw : w.length < ps.length) (hq : q < m) (hn : q ∉ ps.map (·.1)) : BOk m (ps ++ [(q, w ++ sgn c)]) := by
  refine ⟨?_, fun p hp => ?_, fun p hp => ?_⟩
  · rw [List.map_append, List.nodup_append]
    refine ⟨h.nd, by simp, fun x hx y hy => ?_⟩
    simp only [List.map_cons, List.map_nil, List.mem_singleton] at hy
    rw [hy]
    exact fun z => hn (z ▸ hx)
  · rcases List.mem_append.mp hp with hp | hp
    · exact h.lt p hp
    · rw [List.mem_singleton.mp hp]; exact hq
  · rw [List.length_append, List.length_singleton]
    rcases List.mem_append.mp hp with hp | hp
    · have := h.wl p hp; omega
    · rw [List.mem_singleton.mp hp]
      show (w ++ sgn c).length < _
      rw [str_appL, sgn_len]; omega
end DL
namespace DL
open PySem L2
local macro_rules | `(tactic| walk_at "e1") => `(tactic| with_reducible first
  | refine x_var rfl ?_ | refine x_c ?_ | refine x_op ?_ | refine x_un ?_ | refine x_nil ?_ | refine x_cons ?_ | refine x_tup ?_ | refine x_lst ?_ | refine x_lstC ?_ | refine x_cb ?_ | refine x_call ?_ | refine x_if ?_
  | refine x_test ?_ | refine x_and ?_ | refine x_or ?_ | refine x_not ?_ | refine x_tru ?_ | refine x_andV ?_ | refine x_orV ?_ | refine x_notV ?_ | refine x_yes ?_ | refine x_chain ?_
  | refine x_bm ?_ | refine x_bm0 ?_ | refine x_part ?_ | refine x_no ?_ | refine x_sl ?_ | refine x_seqI ?_ | refine x_r1 ?_ | refine x_r2 ?_ | refine x_z ?_ | refine x_lc ?_ | refine x_lcC ?_ | refine x_lcW ?_ | refine x_fld ?_ | refine x_meth ?_ | refine x_prop ?_ | refine x_make ?_ | refine x_en ?_ | refine x_makeK ?_ | refine x_joined ?_ | refine x_jn ?_ | refine x_jc ?_ | refine x_enK ?_ | refine x_dget ?_ | refine x_give ?_ | refine x_lam ?_)
local macro_rules | `(tactic| walk_at "s1") => `(tactic| with_reducible first
  | refine x_seq ?_ | refine x_next ?_ | refine x_break ?_ | refine x_cont ?_ | refine x_drop ?_ | refine x_ret ?_ | refine x_retN ?_ | refine x_ifS ?_ | refine x_set ?_ | refine x_asg ?_ | refine x_par ?_ | refine x_gsub ?_ | refine x_gnil ?_ | refine x_gcons ?_ | refine x_setF ?_ | refine x_for ?_ | refine x_raise ?_ | refine x_rz1 ?_ | refine x_rz0 ?_)
local macro_rules | `(tactic| walk_at "g1") => `(tactic| first
  | with_reducible refine x_iteT ?_ | with_reducible refine x_iteF ?_ | with_reducible refine x_tN ?_ | with_reducible refine x_tB ?_ | with_reducible refine x_tI ?_ | with_reducible refine x_tT ?_ | with_reducible refine x_tL ?_
  | with_reducible refine x_addI ?_ | with_reducible refine x_sub ?_ | with_reducible refine x_ltI ?_ | with_reducible refine x_leI ?_ | with_reducible refine x_gtI ?_ | with_reducible refine x_geI ?_ | with_reducible refine x_ltS ?_ | with_reducible refine x_leS ?_ | with_reducible refine x_gtS ?_ | with_reducible refine x_geS ?_
  | with_reducible refine x_eqI ?_ | with_reducible refine x_eqS ?_ | with_reducible refine x_eqB ?_ | with_reducible refine x_neI ?_ | with_reducible refine x_neS ?_ | with_reducible refine x_neB ?_ | with_reducible refine x_neg ?_
  | with_reducible refine x_inS ?_ | with_reducible refine x_notinS ?_ | with_reducible refine x_intI ?_ | with_reducible refine x_intB ?_ | with_reducible refine x_abs ?_ | with_reducible refine x_slL ?_ | with_reducible refine x_slT ?_ | with_reducible refine x_min2 ?_ | with_reducible refine x_max2 ?_
  | ((with_reducible refine x_is ?_ ?_); · rfl) | ((with_reducible refine x_isnot ?_ ?_); · rfl) | ((with_reducible refine x_isiD ?_ ?_ ?_); (next => rfl); (next => decide)) | ((with_reducible refine x_isiD2 ?_ ?_ ?_ ?_); (next => rfl); (next => decide); (next => decide)) | ((with_reducible refine x_name ?_ ?_); · exact of_decide_eq_true rfl) | ((with_reducible refine x_gtup ?_ ?_); · rfl))
local macro_rules | `(tactic| walk_at "d") => `(tactic| repeat (first | walk_at "e1" | walk_at "s1" | walk_at "g1" | ((with_reducible refine x_putL ?_ ?_); · rfl) | ((with_reducible refine x_szL ?_ ?_); · rfl) | dsimp only [List.set_cons_succ, List.set_cons_zero]))
local macro_rules | `(tactic| walk_at "i") => `(tactic| repeat (first | walk_at "e1" | walk_at "s1" | walk_at "g1" | ((with_reducible refine x_putL ?_ ?_); · rfl) | ((with_reducible refine x_szL ?_ ?_); · rfl) | ((with_reducible refine x_iteT2 ?_ ?_); · rfl) | ((with_reducible refine x_iteF2 ?_ ?_); · rfl) | dsimp only [List.set_cons_succ, List.set_cons_zero]))
local macro_rules | `(tactic| walk_at "g2") => `(tactic| with_reducible first | refine x_ixt0 ?_ | refine x_ixt1 ?_ | refine x_ixt2 ?_ | refine x_ixt3 ?_ | refine x_lenT ?_)
local macro_rules | `(tactic| walk_at "j") => `(tactic| repeat (first | walk_at "e1" | walk_at "s1" | walk_at "g1" | walk_at "g2" | ((with_reducible refine x_inTi ?_ ?_); · rfl) | ((with_reducible refine x_inTn ?_ ?_); · rfl) | ((with_reducible refine x_putL ?_ ?_); · rfl) | ((with_reducible refine x_szL ?_ ?_); · rfl) | ((with_reducible refine x_iteT2 ?_ ?_); · rfl) | ((with_reducible refine x_iteF2 ?_ ?_); · rfl) | dsimp only [List.set_cons_succ, List.set_cons_zero]))
section
variable {S : Store} {x y z : Dat}
theorem st2a : (S ++ [x, y])[S.length]? = some x := by simp
theorem st2b : (S ++ [x, y])[S.length + 1]? = some y := by rw [List.getElem?_append_right (by omega), show S.length + 1 - S.length = 1 by omega]; rfl
theorem st2sa : (S ++ [x, y]).set S.length z = S ++ [z, y] := by rw [List.set_append_right _ _ (by omega), Nat.sub_self]; rfl
theorem st2sb : (S ++ [x, y]).set (S.length + 1) z = S ++ [x, z] := by rw [List.set_append_right _ _ (by omega), show S.length + 1 - S.length = 1 by omega]; rfl
theorem st1a : (S ++ [x])[S.length]? = some x := by simp
theorem st1sa : (S ++ [x]).set S.length z = S ++ [z] := by rw [List.set_append_right _ _ (by omega), Nat.sub_self]; rfl
end
def keysN (ps : List (Nat × Str)) : List Dat := ps.map fun p => natD p.1
theorem isT_list {S : Store} {n : Nat} {xs : List Dat} (h : S[n]? = some (.lst xs)) : isT "list" S (.cell n) := ⟨rfl, by
  show (match view S (.cell n) with
      | some (.lst xs) => some xs
      | _ => none).isSome = true
  simp only [view, h]; rfl⟩
end DL
namespace DL
open PySem L2
local macro_rules | `(tactic| walk_at "e1") => `(tactic| with_reducible first
  | refine x_var rfl ?_ | refine x_c ?_ | refine x_op ?_ | refine x_un ?_ | refine x_nil ?_ | refine x_cons ?_ | refine x_tup ?_ | refine x_lst ?_ | refine x_lstC ?_ | refine x_cb ?_ | refine x_call ?_ | refine x_if ?_
  | refine x_test ?_ | refine x_and ?_ | refine x_or ?_ | refine x_not ?_ | refine x_tru ?_ | refine x_andV ?_ | refine x_orV ?_ | refine x_notV ?_ | refine x_yes ?_ | refine x_chain ?_
  | refine x_bm ?_ | refine x_bm0 ?_ | refine x_part ?_ | refine x_no ?_ | refine x_sl ?_ | refine x_seqI ?_ | refine x_r1 ?_ | refine x_r2 ?_ | refine x_z ?_ | refine x_lc ?_ | refine x_lcC ?_ | refine x_lcW ?_ | refine x_fld ?_ | refine x_meth ?_ | refine x_prop ?_ | refine x_make ?_ | refine x_en ?_ | refine x_makeK ?_ | refine x_joined ?_ | refine x_jn ?_ | refine x_jc ?_ | refine x_enK ?_ | refine x_dget ?_ | refine x_give ?_ | refine x_lam ?_)
local macro_rules | `(tactic| walk_at "s1") => `(tactic| with_reducible first
  | refine x_seq ?_ | refine x_next ?_ | refine x_break ?_ | refine x_cont ?_ | refine x_drop ?_ | refine x_ret ?_ | refine x_retN ?_ | refine x_ifS ?_ | refine x_set ?_ | refine x_asg ?_ | refine x_par ?_ | refine x_gsub ?_ | refine x_gnil ?_ | refine x_gcons ?_ | refine x_setF ?_ | refine x_for ?_ | refine x_raise ?_ | refine x_rz1 ?_ | refine x_rz0 ?_)
local macro_rules | `(tactic| walk_at "g1") => `(tactic| first
  | with_reducible refine x_iteT ?_ | with_reducible refine x_iteF ?_ | with_reducible refine x_tN ?_ | with_reducible refine x_tB ?_ | with_reducible refine x_tI ?_ | with_reducible refine x_tT ?_ | with_reducible refine x_tL ?_
  | with_reducible refine x_addI ?_ | with_reducible refine x_sub ?_ | with_reducible refine x_ltI ?_ | with_reducible refine x_leI ?_ | with_reducible refine x_gtI ?_ | with_reducible refine x_geI ?_ | with_reducible refine x_ltS ?_ | with_reducible refine x_leS ?_ | with_reducible refine x_gtS ?_ | with_reducible refine x_geS ?_
  | with_reducible refine x_eqI ?_ | with_reducible refine x_eqS ?_ | with_reducible refine x_eqB ?_ | with_reducible refine x_neI ?_ | with_reducible refine x_neS ?_ | with_reducible refine x_neB ?_ | with_reducible refine x_neg ?_
  | with_reducible refine x_inS ?_ | with_reducible refine x_notinS ?_ | with_reducible refine x_intI ?_ | with_reducible refine x_intB ?_ | with_reducible refine x_abs ?_ | with_reducible refine x_slL ?_ | with_reducible refine x_slT ?_ | with_reducible refine x_min2 ?_ | with_reducible refine x_max2 ?_
  | ((with_reducible refine x_is ?_ ?_); · rfl) | ((with_reducible refine x_isnot ?_ ?_); · rfl) | ((with_reducible refine x_isiD ?_ ?_ ?_); (next => rfl); (next => decide)) | ((with_reducible refine x_isiD2 ?_ ?_ ?_ ?_); (next => rfl); (next => decide); (next => decide)) | ((with_reducible refine x_name ?_ ?_); · exact of_decide_eq_true rfl) | ((with_reducible refine x_gtup ?_ ?_); · rfl))
local macro_rules | `(tactic| walk_at "d") => `(tactic| repeat (first | walk_at "e1" | walk_at "s1" | walk_at "g1" | ((with_reducible refine x_putL ?_ ?_); · rfl) | ((with_reducible refine x_szL ?_ ?_); · rfl) | dsimp only [List.set_cons_succ, List.set_cons_zero]))
local macro_rules | `(tactic| walk_at "i") => `(tactic| repeat (first | walk_at "e1" | walk_at "s1" | walk_at "g1" | ((with_reducible refine x_putL ?_ ?_); · rfl) | ((with_reducible refine x_szL ?_ ?_); · rfl) | ((with_reducible refine x_iteT2 ?_ ?_); · rfl) | ((with_reducible refine x_iteF2 ?_ ?_); · rfl) | dsimp only [List.set_cons_succ, List.set_cons_zero]))
local macro_rules | `(tactic| walk_at "g2") => `(tactic| with_reducible first | refine x_ixt0 ?_ | refine x_ixt1 ?_ | refine x_ixt2 ?_ | refine x_ixt3 ?_ | refine x_lenT ?_)
local macro_rules | `(tactic| walk_at "j") => `(tactic| repeat (first | walk_at "e1" | walk_at "s1" | walk_at "g1" | walk_at "g2" | ((with_reducible refine x_inTi ?_ ?_); · rfl) | ((with_reducible refine x_inTn ?_ ?_); · rfl) | ((with_reducible refine x_putL ?_ ?_); · rfl) | ((with_reducible refine x_szL ?_ ?_); · rfl) | ((with_reducible refine x_iteT2 ?_ ?_); · rfl) | ((with_reducible refine x_iteF2 ?_ ?_); · rfl) | dsimp only [List.set_cons_succ, List.set_cons_zero]))
def foundN (ps : List (Nat × Str)) : List Dat := ps.map fun p => pairD (kp p)
end DL
namespace DL
open PySem L2
local macro_rules | `(tactic| walk_at "e1") => `(tactic| with_reducible first
  | refine x_var rfl ?_ | refine x_c ?_ | refine x_op ?_ | refine x_un ?_ | refine x_nil ?_ | refine x_cons ?_ | refine x_tup ?_ | refine x_lst ?_ | refine x_lstC ?_ | refine x_cb ?_ | refine x_call ?_ | refine x_if ?_
  | refine x_test ?_ | refine x_and ?_ | refine x_or ?_ | refine x_not ?_ | refine x_tru ?_ | refine x_andV ?_ | refine x_orV ?_ | refine x_notV ?_ | refine x_yes ?_ | refine x_chain ?_
  | refine x_bm ?_ | refine x_bm0 ?_ | refine x_part ?_ | refine x_no ?_ | refine x_sl ?_ | refine x_seqI ?_ | refine x_r1 ?_ | refine x_r2 ?_ | refine x_z ?_ | refine x_lc ?_ | refine x_lcC ?_ | refine x_lcW ?_ | refine x_fld ?_ | refine x_meth ?_ | refine x_prop ?_ | refine x_make ?_ | refine x_en ?_ | refine x_makeK ?_ | refine x_joined ?_ | refine x_jn ?_ | refine x_jc ?_ | refine x_enK ?_ | refine x_dget ?_ | refine x_sortset ?_ | refine x_give ?_ | refine x_lam ?_)
local macro_rules | `(tactic| walk_at "s1") => `(tactic| with_reducible first
  | refine x_seq ?_ | refine x_next ?_ | refine x_break ?_ | refine x_cont ?_ | refine x_drop ?_ | refine x_ret ?_ | refine x_retN ?_ | refine x_ifS ?_ | refine x_set ?_ | refine x_asg ?_ | refine x_par ?_ | refine x_gsub ?_ | refine x_gnil ?_ | refine x_gcons ?_ | refine x_setF ?_ | refine x_for ?_ | refine x_raise ?_ | refine x_rz1 ?_ | refine x_rz0 ?_)
local macro_rules | `(tactic| walk_at "g1") => `(tactic| first
  | with_reducible refine x_iteT ?_ | with_reducible refine x_iteF ?_ | with_reducible refine x_tN ?_ | with_reducible refine x_tB ?_ | with_reducible refine x_tI ?_ | with_reducible refine x_tT ?_ | with_reducible refine x_tL ?_
  | with_reducible refine x_addI ?_ | with_reducible refine x_sub ?_ | with_reducible refine x_ltI ?_ | with_reducible refine x_leI ?_ | with_reducible refine x_gtI ?_ | with_reducible refine x_geI ?_ | with_reducible refine x_ltS ?_ | with_reducible refine x_leS ?_ | with_reducible refine x_gtS ?_ | with_reducible refine x_geS ?_
  | with_reducible refine x_eqI ?_ | with_reducible refine x_eqS ?_ | with_reducible refine x_eqB ?_ | with_reducible refine x_neI ?_ | with_reducible refine x_neS ?_ | with_reducible refine x_neB ?_ | with_reducible refine x_neg ?_
  | with_reducible refine x_inS ?_ | with_reducible refine x_notinS ?_ | with_reducible refine x_intI ?_ | with_reducible refine x_intB ?_ | with_reducible refine x_abs ?_ | with_reducible refine x_slL ?_ | with_reducible refine x_slT ?_ | with_reducible refine x_min2 ?_ | with_reducible refine x_max2 ?_
  | ((with_reducible refine x_is ?_ ?_); · rfl) | ((with_reducible refine x_isnot ?_ ?_); · rfl) | ((with_reducible refine x_isiD ?_ ?_ ?_); (next => rfl); (next => decide)) | ((with_reducible refine x_isiD2 ?_ ?_ ?_ ?_); (next => rfl); (next => decide); (next => decide)) | ((with_reducible refine x_name ?_ ?_); · exact of_decide_eq_true rfl) | ((with_reducible refine x_gtup ?_ ?_); · rfl))
local macro_rules | `(tactic| walk_at "d") => `(tactic| repeat (first | walk_at "e1" | walk_at "s1" | walk_at "g1" | ((with_reducible refine x_putL ?_ ?_); · rfl) | ((with_reducible refine x_szL ?_ ?_); · rfl) | dsimp only [List.set_cons_succ, List.set_cons_zero]))
local macro_rules | `(tactic| walk_at "i") => `(tactic| repeat (first | walk_at "e1" | walk_at "s1" | walk_at "g1" | ((with_reducible refine x_putL ?_ ?_); · rfl) | ((with_reducible refine x_szL ?_ ?_); · rfl) | ((with_reducible refine x_iteT2 ?_ ?_); · rfl) | ((with_reducible refine x_iteF2 ?_ ?_); · rfl) | dsimp only [List.set_cons_succ, List.set_cons_zero]))
local macro_rules | `(tactic| walk_at "g2") => `(tactic| with_reducible first | refine x_ixt0 ?_ | refine x_ixt1 ?_ | refine x_ixt2 ?_ | refine x_ixt3 ?_ | refine x_lenT ?_)
local macro_rules | `(tactic| walk_at "j") => `(tactic| repeat (first | walk_at "e1" | walk_at "s1" | walk_at "g1" | walk_at "g2" | ((with_reducible refine x_inTi ?_ ?_); · rfl) | ((with_reducible refine x_inTn ?_ ?_); · rfl) | ((with_reducible refine x_putL ?_ ?_); · rfl) | ((with_reducible refine x_szL ?_ ?_); · rfl) | ((with_reducible refine x_iteT2 ?_ ?_); · rfl) | ((with_reducible refine x_iteF2 ?_ ?_); · rfl) | dsimp only [List.set_cons_succ, List.set_cons_zero]))
/-! tuples of ints, compared -/
end DL
namespace DL
open PySem L2
local macro_rules | `(tactic| walk_at "e1") => `(tactic| with_reducible first
  | refine x_var rfl ?_ | refine x_c ?_ | refine x_op ?_ | refine x_un ?_ | refine x_nil ?_ | refine x_cons ?_ | refine x_tup ?_ | refine x_lst ?_ | refine x_lstC ?_ | refine x_cb ?_ | refine x_call ?_ | refine x_if ?_
  | refine x_test ?_ | refine x_and ?_ | refine x_or ?_ | refine x_not ?_ | refine x_tru ?_ | refine x_andV ?_ | refine x_orV ?_ | refine x_notV ?_ | refine x_yes ?_ | refine x_chain ?_
  | refine x_bm ?_ | refine x_bm0 ?_ | refine x_part ?_ | refine x_no ?_ | refine x_sl ?_ | refine x_seqI ?_ | refine x_r1 ?_ | refine x_r2 ?_ | refine x_z ?_ | refine x_lc ?_ | refine x_lcC ?_ | refine x_lcW ?_ | refine x_fld ?_ | refine x_meth ?_ | refine x_prop ?_ | refine x_make ?_ | refine x_en ?_ | refine x_makeK ?_ | refine x_joined ?_ | refine x_jn ?_ | refine x_jc ?_ | refine x_enK ?_ | refine x_dget ?_ | refine x_sortset ?_ | refine x_give ?_ | refine x_lam ?_)
local macro_rules | `(tactic| walk_at "s1") => `(tactic| with_reducible first
  | refine x_seq ?_ | refine x_next ?_ | refine x_break ?_ | refine x_cont ?_ | refine x_drop ?_ | refine x_ret ?_ | refine x_retN ?_ | refine x_ifS ?_ | refine x_set ?_ | refine x_asg ?_ | refine x_par ?_ | refine x_gsub ?_ | refine x_gnil ?_ | refine x_gcons ?_ | refine x_setF ?_ | refine x_for ?_ | refine x_raise ?_ | refine x_rz1 ?_ | refine x_rz0 ?_)
local macro_rules | `(tactic| walk_at "g1") => `(tactic| first
  | with_reducible refine x_iteT ?_ | with_reducible refine x_iteF ?_ | with_reducible refine x_tN ?_ | with_reducible refine x_tB ?_ | with_reducible refine x_tI ?_ | with_reducible refine x_tT ?_ | with_reducible refine x_tL ?_
  | with_reducible refine x_addI ?_ | with_reducible refine x_sub ?_ | with_reducible refine x_ltI ?_ | with_reducible refine x_leI ?_ | with_reducible refine x_gtI ?_ | with_reducible refine x_geI ?_ | with_reducible refine x_ltS ?_ | with_reducible refine x_leS ?_ | with_reducible refine x_gtS ?_ | with_reducible refine x_geS ?_
  | with_reducible refine x_eqI ?_ | with_reducible refine x_eqS ?_ | with_reducible refine x_eqB ?_ | with_reducible refine x_neI ?_ | with_reducible refine x_neS ?_ | with_reducible refine x_neB ?_ | with_reducible refine x_neg ?_
  | with_reducible refine x_inS ?_ | with_reducible refine x_notinS ?_ | with_reducible refine x_intI ?_ | with_reducible refine x_intB ?_ | with_reducible refine x_abs ?_ | with_reducible refine x_slL ?_ | with_reducible refine x_slT ?_ | with_reducible refine x_min2 ?_ | with_reducible refine x_max2 ?_
  | ((with_reducible refine x_is ?_ ?_); · rfl) | ((with_reducible refine x_isnot ?_ ?_); · rfl) | ((with_reducible refine x_isiD ?_ ?_ ?_); (next => rfl); (next => decide)) | ((with_reducible refine x_isiD2 ?_ ?_ ?_ ?_); (next => rfl); (next => decide); (next => decide)) | ((with_reducible refine x_name ?_ ?_); · exact of_decide_eq_true rfl) | ((with_reducible refine x_gtup ?_ ?_); · rfl))
local macro_rules | `(tactic| walk_at "d") => `(tactic| repeat (first | walk_at "e1" | walk_at "s1" | walk_at "g1" | ((with_reducible refine x_putL ?_ ?_); · rfl) | ((with_reducible refine x_szL ?_ ?_); · rfl) | dsimp only [List.set_cons_succ, List.set_cons_zero]))
local macro_rules | `(tactic| walk_at "i") => `(tactic| repeat (first | walk_at "e1" | walk_at "s1" | walk_at "g1" | ((with_reducible refine x_putL ?_ ?_); · rfl) | ((with_reducible refine x_szL ?_ ?_); · rfl) | ((with_reducible refine x_iteT2 ?_ ?_); · rfl) | ((with_reducible refine x_iteF2 ?_ ?_); · rfl) | dsimp only [List.set_cons_succ, List.set_cons_zero]))
local macro_rules | `(tactic| walk_at "g2") => `(tactic| with_reducible first | refine x_ixt0 ?_ | refine x_ixt1 ?_ | refine x_ixt2 ?_ | refine x_ixt3 ?_ | refine x_lenT ?_)
local macro_rules | `(tactic| walk_at "j") => `(tactic| repeat (first | walk_at "e1" | walk_at "s1" | walk_at "g1" | walk_at "g2" | ((with_reducible refine x_inTi ?_ ?_); · rfl) | ((with_reducible refine x_inTn ?_ ?_); · rfl) | ((with_reducible refine x_putL ?_ ?_); · rfl) | ((with_reducible refine x_szL ?_ ?_); · rfl) | ((with_reducible refine x_iteT2 ?_ ?_); · rfl) | ((with_reducible refine x_iteF2 ?_ ?_); · rfl) | dsimp only [List.set_cons_succ, List.set_cons_zero]))
end DL
namespace DL
open PySem L2
local macro_rules | `(tactic| walk_at "e1") => `(tactic| with_reducible first
  | refine x_var rfl ?_ | refine x_c ?_ | refine x_op ?_ | refine x_un ?_ | refine x_nil ?_ | refine x_cons ?_ | refine x_tup ?_ | refine x_lst ?_ | refine x_lstC ?_ | refine x_cb ?_ | refine x_call ?_ | refine x_if ?_
  | refine x_test ?_ | refine x_and ?_ | refine x_or ?_ | refine x_not ?_ | refine x_tru ?_ | refine x_andV ?_ | refine x_orV ?_ | refine x_notV ?_ | refine x_yes ?_ | refine x_chain ?_
  | refine x_bm ?_ | refine x_bm0 ?_ | refine x_part ?_ | refine x_no ?_ | refine x_sl ?_ | refine x_seqI ?_ | refine x_r1 ?_ | refine x_r2 ?_ | refine x_z ?_ | refine x_lc ?_ | refine x_lcC ?_ | refine x_lcW ?_ | refine x_fld ?_ | refine x_meth ?_ | refine x_prop ?_ | refine x_make ?_ | refine x_en ?_ | refine x_makeK ?_ | refine x_joined ?_ | refine x_jn ?_ | refine x_jc ?_ | refine x_enK ?_ | refine x_dget ?_ | refine x_sortset ?_ | refine x_give ?_ | refine x_lam ?_)
local macro_rules | `(tactic| walk_at "s1") => `(tactic| with_reducible first
  | refine x_seq ?_ | refine x_next ?_ | refine x_break ?_ | refine x_cont ?_ | refine x_drop ?_ | refine x_ret ?_ | refine x_retN ?_ | refine x_ifS ?_ | refine x_set ?_ | refine x_asg ?_ | refine x_par ?_ | refine x_gsub ?_ | refine x_gnil ?_ | refine x_gcons ?_ | refine x_setF ?_ | refine x_for ?_ | refine x_raise ?_ | refine x_rz1 ?_ | refine x_rz0 ?_)
local macro_rules | `(tactic| walk_at "g1") => `(tactic| first
  | with_reducible refine x_iteT ?_ | with_reducible refine x_iteF ?_ | with_reducible refine x_tN ?_ | with_reducible refine x_tB ?_ | with_reducible refine x_tI ?_ | with_reducible refine x_tT ?_ | with_reducible refine x_tL ?_
  | with_reducible refine x_addI ?_ | with_reducible refine x_sub ?_ | with_reducible refine x_ltI ?_ | with_reducible refine x_leI ?_ | with_reducible refine x_gtI ?_ | with_reducible refine x_geI ?_ | with_reducible refine x_ltS ?_ | with_reducible refine x_leS ?_ | with_reducible refine x_gtS ?_ | with_reducible refine x_geS ?_
  | with_reducible refine x_eqI ?_ | with_reducible refine x_eqS ?_ | with_reducible refine x_eqB ?_ | with_reducible refine x_neI ?_ | with_reducible refine x_neS ?_ | with_reducible refine x_neB ?_ | with_reducible refine x_neg ?_
  | with_reducible refine x_inS ?_ | with_reducible refine x_notinS ?_ | with_reducible refine x_intI ?_ | with_reducible refine x_intB ?_ | with_reducible refine x_abs ?_ | with_reducible refine x_slL ?_ | with_reducible refine x_slT ?_ | with_reducible refine x_min2 ?_ | with_reducible refine x_max2 ?_
  | ((with_reducible refine x_is ?_ ?_); · rfl) | ((with_reducible refine x_isnot ?_ ?_); · rfl) | ((with_reducible refine x_isiD ?_ ?_ ?_); (next => rfl); (next => decide)) | ((with_reducible refine x_isiD2 ?_ ?_ ?_ ?_); (next => rfl); (next => decide); (next => decide)) | ((with_reducible refine x_name ?_ ?_); · exact of_decide_eq_true rfl) | ((with_reducible refine x_gtup ?_ ?_); · rfl))
local macro_rules | `(tactic| walk_at "d") => `(tactic| repeat (first | walk_at "e1" | walk_at "s1" | walk_at "g1" | ((with_reducible refine x_putL ?_ ?_); · rfl) | ((with_reducible refine x_szL ?_ ?_); · rfl) | dsimp only [List.set_cons_succ, List.set_cons_zero]))
local macro_rules | `(tactic| walk_at "i") => `(tactic| repeat (first | walk_at "e1" | walk_at "s1" | walk_at "g1" | ((with_reducible refine x_putL ?_ ?_); · rfl) | ((with_reducible refine x_szL ?_ ?_); · rfl) | ((with_reducible refine x_iteT2 ?_ ?_); · rfl) | ((with_reducible refine x_iteF2 ?_ ?_); · rfl) | dsimp only [List.set_cons_succ, List.set_cons_zero]))
local macro_rules | `(tactic| walk_at "g2") => `(tactic| with_reducible first | refine x_ixt0 ?_ | refine x_ixt1 ?_ | refine x_ixt2 ?_ | refine x_ixt3 ?_ | refine x_lenT ?_)
local macro_rules | `(tactic| walk_at "j") => `(tactic| repeat (first | walk_at "e1" | walk_at "s1" | walk_at "g1" | walk_at "g2" | ((with_reducible refine x_inTi ?_ ?_); · rfl) | ((with_reducible refine x_inTn ?_ ?_); · rfl) | ((with_reducible refine x_putL ?_ ?_); · rfl) | ((with_reducible refine x_szL ?_ ?_); · rfl) | ((with_reducible refine x_iteT2 ?_ ?_); · rfl) | ((with_reducible refine x_iteF2 ?_ ?_); · rfl) | dsimp only [List.set_cons_succ, List.set_cons_zero]))
/-! plain laws of sorted lists -/
/-! the keys of a dict made of pairs -/
/-! sets of reachable states -/
/-- data that is no set of reachable states -/
structure NoSet (R : List Nat) (v : Dat) : Prop where
  kind : ∀ S, okRowK S v
  bad : isSetB R v = false
  same : ∀ S n, SameD S (n + 2) v v
  bel : ∀ n, below n v
end DL
namespace DL
open PySem L2
local macro_rules | `(tactic| walk_at "e1") => `(tactic| with_reducible first
  | refine x_var rfl ?_ | refine x_c ?_ | refine x_op ?_ | refine x_un ?_ | refine x_nil ?_ | refine x_cons ?_ | refine x_tup ?_ | refine x_lst ?_ | refine x_lstC ?_ | refine x_cb ?_ | refine x_call ?_ | refine x_if ?_
  | refine x_test ?_ | refine x_and ?_ | refine x_or ?_ | refine x_not ?_ | refine x_tru ?_ | refine x_andV ?_ | refine x_orV ?_ | refine x_notV ?_ | refine x_yes ?_ | refine x_chain ?_
  | refine x_bm ?_ | refine x_bm0 ?_ | refine x_part ?_ | refine x_no ?_ | refine x_sl ?_ | refine x_seqI ?_ | refine x_r1 ?_ | refine x_r2 ?_ | refine x_z ?_ | refine x_lc ?_ | refine x_lcC ?_ | refine x_lcW ?_ | refine x_fld ?_ | refine x_meth ?_ | refine x_prop ?_ | refine x_make ?_ | refine x_en ?_ | refine x_makeK ?_ | refine x_joined ?_ | refine x_jn ?_ | refine x_jc ?_ | refine x_enK ?_ | refine x_dget ?_ | refine x_give ?_ | refine x_lam ?_)
local macro_rules | `(tactic| walk_at "s1") => `(tactic| with_reducible first
  | refine x_seq ?_ | refine x_next ?_ | refine x_break ?_ | refine x_cont ?_ | refine x_drop ?_ | refine x_ret ?_ | refine x_retN ?_ | refine x_ifS ?_ | refine x_set ?_ | refine x_asg ?_ | refine x_par ?_ | refine x_gsub ?_ | refine x_gnil ?_ | refine x_gcons ?_ | refine x_setF ?_ | refine x_for ?_ | refine x_raise ?_ | refine x_rz1 ?_ | refine x_rz0 ?_)
local macro_rules | `(tactic| walk_at "g1") => `(tactic| first
  | with_reducible refine x_iteT ?_ | with_reducible refine x_iteF ?_ | with_reducible refine x_tN ?_ | with_reducible refine x_tB ?_ | with_reducible refine x_tI ?_ | with_reducible refine x_tT ?_ | with_reducible refine x_tL ?_
  | with_reducible refine x_addI ?_ | with_reducible refine x_sub ?_ | with_reducible refine x_ltI ?_ | with_reducible refine x_leI ?_ | with_reducible refine x_gtI ?_ | with_reducible refine x_geI ?_ | with_reducible refine x_ltS ?_ | with_reducible refine x_leS ?_ | with_reducible refine x_gtS ?_ | with_reducible refine x_geS ?_
  | with_reducible refine x_eqI ?_ | with_reducible refine x_eqS ?_ | with_reducible refine x_eqB ?_ | with_reducible refine x_neI ?_ | with_reducible refine x_neS ?_ | with_reducible refine x_neB ?_ | with_reducible refine x_neg ?_
  | with_reducible refine x_inS ?_ | with_reducible refine x_notinS ?_ | with_reducible refine x_intI ?_ | with_reducible refine x_intB ?_ | with_reducible refine x_abs ?_ | with_reducible refine x_slL ?_ | with_reducible refine x_slT ?_ | with_reducible refine x_min2 ?_ | with_reducible refine x_max2 ?_
  | ((with_reducible refine x_is ?_ ?_); · rfl) | ((with_reducible refine x_isnot ?_ ?_); · rfl) | ((with_reducible refine x_isiD ?_ ?_ ?_); (next => rfl); (next => decide)) | ((with_reducible refine x_isiD2 ?_ ?_ ?_ ?_); (next => rfl); (next => decide); (next => decide)) | ((with_reducible refine x_name ?_ ?_); · exact of_decide_eq_true rfl) | ((with_reducible refine x_gtup ?_ ?_); · rfl))
local macro_rules | `(tactic| walk_at "d") => `(tactic| repeat (first | walk_at "e1" | walk_at "s1" | walk_at "g1" | ((with_reducible refine x_putL ?_ ?_); · rfl) | ((with_reducible refine x_szL ?_ ?_); · rfl) | dsimp only [List.set_cons_succ, List.set_cons_zero]))
local macro_rules | `(tactic| walk_at "i") => `(tactic| repeat (first | walk_at "e1" | walk_at "s1" | walk_at "g1" | ((with_reducible refine x_putL ?_ ?_); · rfl) | ((with_reducible refine x_szL ?_ ?_); · rfl) | ((with_reducible refine x_iteT2 ?_ ?_); · rfl) | ((with_reducible refine x_iteF2 ?_ ?_); · rfl) | dsimp only [List.set_cons_succ, List.set_cons_zero]))
local macro_rules | `(tactic| walk_at "g2") => `(tactic| with_reducible first | refine x_ixt0 ?_ | refine x_ixt1 ?_ | refine x_ixt2 ?_ | refine x_ixt3 ?_ | refine x_lenT ?_)
local macro_rules | `(tactic| walk_at "j") => `(tactic| repeat (first | walk_at "e1" | walk_at "s1" | walk_at "g1" | walk_at "g2" | ((with_reducible refine x_inTi ?_ ?_); · rfl) | ((with_reducible refine x_inTn ?_ ?_); · rfl) | ((with_reducible refine x_putL ?_ ?_); · rfl) | ((with_reducible refine x_szL ?_ ?_); · rfl) | ((with_reducible refine x_iteT2 ?_ ?_); · rfl) | ((with_reducible refine x_iteF2 ?_ ?_); · rfl) | dsimp only [List.set_cons_succ, List.set_cons_zero]))
def BL (a : Str) (g : List (List Nat)) (s : Nat) (ps : List (Nat × Str)) : Prop := ∀ p ∈ ps, isWord a p.2 = true ∧ ledF a g s p.2.cps.toList = p.1
theorem cps_sgn (w : Str) (c : Nat) : (w ++ sgn c).cps.toList = w.cps.toList ++ [c] := by
  show (w.cps ++ (sgn c).cps).toList = _
  rw [Array.toList_append]; rfl
theorem BL.row {a : Str} {g : List (List Nat)} {s q : Nat} {w : Str} (hw : isWord a w = true) (hl : ledF a g s w.cps.toList = q) : ∀ {r : List (Nat × Nat)} {ps : List (Nat × Str)}, BL a g s ps → (∀ x ∈ r, x.2 ∈ a.cps.toList ∧ (g.getD q []).getD (a.cps.toList.idxOf x.2) 0 = x.1) → BL a g s (bfsRow w r ps)
  | [], ps, h, _ => h
  | (q', c) :: r, ps, h, hr => by
    unfold bfsRow
    refine BL.row hw hl ?_ fun x hx => hr x (List.mem_cons_of_mem _ hx)
    by_cases e : q' ∈ ps.map (·.1)
    · rw [if_pos e]; exact h
    · rw [if_neg e]
      intro p hp
      rcases List.mem_append.mp hp with hp | hp
      · exact h p hp
      · rw [List.mem_singleton.mp hp]
        obtain ⟨h1, h2⟩ := hr (q', c) List.mem_cons_self
        constructor
        · show isWord a (w ++ sgn c) = true
          unfold isWord
          rw [cps_sgn, List.all_append]
          unfold isWord at hw
          rw [hw]
          show (true && (decide (c ∈ a.cps.toList) && true)) = true
          rw [decide_eq_true h1]; rfl
        · show ledF a g s (w ++ sgn c).cps.toList = q'
          rw [cps_sgn, led_snoc, hl]
          exact h2
end DL
/-! WX: rules by which a walk goes on by itself: promises opened at the head, methods and fields of machines, same data. -/
namespace DL
open PySem L2
section
variable {KF : PySem.W.Frag} {S : Store} {d : Dat} {a : Str} {g : List (List Nat)} {s : Nat}
theorem ma_and {P : Prop} (h : ∀ S, isMa KF S d a g s) (k : P) : isMa KF S d a g s ∧ P := ⟨h S, k⟩
theorem mg_ma {F : Spec} {m : Str} {P : Spec → Prop} (ma : ∀ S, isMa KF S d a g s) (hm : m ∉ maNs) (k : P F) : ∃ C ns xs F', insD S d = some (C, ns, xs) ∧ m ∉ ns ∧ (C, F') ∈ [(He.ga KF "Machine", F)] ∧ P F' := ⟨_, _, _, _, (ma S).ins, hm, List.mem_cons_self, k⟩
theorem mg_ma1 {F : Spec} {m : Str} {P : Spec → Prop} (ma : isMa KF S d a g s) (hm : m ∉ maNs) (k : P F) : ∃ C ns xs F', insD S d = some (C, ns, xs) ∧ m ∉ ns ∧ (C, F') ∈ [(He.ga KF "Machine", F)] ∧ P F' := ⟨_, _, _, _, ma.ins, hm, List.mem_cons_self, k⟩
theorem pg_ma {F : Spec} {P : Spec → Prop} (ma : ∀ S, isMa KF S d a g s) (k : P F) : ∃ C ns xs F', insD S d = some (C, ns, xs) ∧ (C, F') ∈ [(He.ga KF "Machine", F)] ∧ P F' := ⟨_, _, _, _, (ma S).ins, List.mem_cons_self, k⟩
theorem pg_ma1 {F : Spec} {P : Spec → Prop} (ma : isMa KF S d a g s) (k : P F) : ∃ C ns xs F', insD S d = some (C, ns, xs) ∧ (C, F') ∈ [(He.ga KF "Machine", F)] ∧ P F' := ⟨_, _, _, _, ma.ins, List.mem_cons_self, k⟩
theorem fg_al {P : Dat → Prop} (ma : isMa KF S d a g s) (k : P (.str a)) : ∃ C ns xs x, C ∈ [He.ga KF "Machine"] ∧ insD S d = some (C, ns, xs) ∧ (ns.zip xs).lookup ("own_alphabet" : Str) = some x ∧ P x := ⟨_, _, _, _, List.mem_cons_self, ma.ins, rfl, k⟩
theorem fg_rows {P : Dat → Prop} (ma : isMa KF S d a g s) (k : P (.lst (g.map encRow))) : ∃ C ns xs x, C ∈ [He.ga KF "Machine"] ∧ insD S d = some (C, ns, xs) ∧ (ns.zip xs).lookup ("own_rows" : Str) = some x ∧ P x := ⟨_, _, _, _, List.mem_cons_self, ma.ins, rfl, k⟩
theorem fg_start {P : Dat → Prop} (ma : isMa KF S d a g s) (k : P (natD s)) : ∃ C ns xs x, C ∈ [He.ga KF "Machine"] ∧ insD S d = some (C, ns, xs) ∧ (ns.zip xs).lookup ("own_start" : Str) = some x ∧ P x := ⟨_, _, _, _, List.mem_cons_self, ma.ins, rfl, k⟩
end
section
variable {KF : PySem.W.Frag} {S : Store} {n : Nat} {x y : Dat} {Kt : KE} {X : KX} {xs ys : List Dat}
theorem o_law_same (h : SameD S (n + 1) x y) (k : Kt (.bl true) S) : sp_law_same KF (n + 1) ([x, y] ++ []) S Kt X := ⟨x, y, rfl, h, k⟩
theorem same_tA (hl : Nat.ble xs.length 1000000 = true) (h : All2 (SameD S n) xs ys) : SameD S (n + 1) (.tup xs) (.tup ys) := by
  have szl : sizeLine = 16777216 := rfl
  have := Nat.le_of_ble_eq_true hl
  refine .inr (.inr (.inr (.inr (.inl ⟨xs, ys, rfl, rfl, h.len, by omega, fun i a b e1 e2 => ?_⟩))))
  have key : ∀ {xs ys : List Dat}, All2 (SameD S n) xs ys → ∀ (i : Nat) a b, xs[i]? = some a → ys[i]? = some b → SameD S n a b := by
    intro xs ys h
    induction h with
    | nil => intro i a b e; cases e
    | cons h _ ih =>
      intro i a b e1 e2
      cases i with
      | zero => cases e1; cases e2; exact h
      | succ i => exact ih i a b e1 e2
  exact key h i a b e1 e2
theorem same_lA (hl : Nat.ble xs.length 1000000 = true) (h : All2 (SameD S n) xs ys) : SameD S (n + 1) (.lst xs) (.lst ys) := same_ls rfl rfl (Nat.le_of_ble_eq_true hl) h
end
theorem rt_here {S : Store} {K : KE} {X : KX} {d : Dat} (hb : below S.length d) (k : K d S) : (endsOf S K X).rt d S := exit_here hb k
theorem nx_here {S : Store} {K : KE} {X : KX} {dl : Env'} (k : K .non S) : (endsOf S K X).nx dl S := exit_here (by simp only [below]) k
theorem nats_below' {n : Nat} (g : List Nat) : belows n (natDs g) := nats_below g
theorem x_isiK {KF : PySem.W.Frag} {S : Store} {K : KE} {d : Dat} {T : String} (h : okKind S d) (hT : T ∈ tyNames) (k : ∀ t, tyS S d = some t → K (.bl (isB t T)) S) : gIsi KF [d, .raw (.ty T)] S K := by
  obtain ⟨t, e, _⟩ := h
  exact x_isi e hT (k t e)
end DL
/-! WS1: the rules of a reading as instances. -/
namespace DL
open PySem L2
open DX
section
variable {X : Cx} {W : WX} {C : Addr} {nf : List (Str × Fs)} {n k j : Nat} {b : Bool} {x : Str} {p pos rpos : Pos} {e : Expr} {es : List Expr} {t : TA} {u : UA}
end
section
variable {dl : Env'} {S : Store} {D : DEnds} {C : Addr} {nf : List (Str × Fs)} {n : Nat} {b : Bool} {ua : UA}
instance  : Step (uRaise C nf n b ua D dl S) (ua dl S (fun ds S1 => ds.length = n ∧ condD b ds ∧ ∃ xs, FD ds (nf.map (·.2)) xs ∧ D.ex ⟨C, nf.map (·.1), xs⟩ dl S1) (fun e S1 => D.ex e dl S1)) := ⟨fun h => x_raise h⟩
end
section
variable {dl : Env'} {S : Store} {K : KE} {X : KX} {D : DEnds} {i j : Nat} {d d' x y z : Dat} {ua ub uc ue : UE} {tA tB : UT} {u : UA} {a b : US} {g g' : G2} {KT : Bool → Store → Prop} {KA : List Dat → Store → Prop} {xs ys ds : List Dat} {KF : PySem.W.Frag}
instance  : Step (uSeq a b D dl S) (a { D with nx := b D } dl S) := ⟨fun h => x_seq h⟩
instance  : Step (uNext D dl S) (D.nx dl S) := ⟨fun h => x_next h⟩
instance  : Step (uBreak D dl S) (D.bk dl S) := ⟨fun h => x_break h⟩
instance  : Step (uCont D dl S) (D.ct dl S) := ⟨fun h => x_cont h⟩
instance  : Step (uDrop ue D dl S) (ue dl S (fun _ S1 => D.nx dl S1) (fun e S1 => D.ex e dl S1)) := ⟨fun h => x_drop h⟩
instance  : Step (uRet ue D dl S) (ue dl S (fun d S1 => D.rt d S1) (fun e S1 => D.ex e dl S1)) := ⟨fun h => x_ret h⟩
instance  : Step (uRetN D dl S) (D.rt .non S) := ⟨fun h => x_retN h⟩
instance  : Step (uIfS tA a b D dl S) (tA dl S (fun k S1 => if k = true then a D dl S1 else b D dl S1) (fun e S1 => D.ex e dl S1)) := ⟨fun h => x_ifS h⟩
instance  : Step (uSet i ue D dl S) (ue dl S (fun d S1 => i < dl.length ∧ D.nx (dl.set i (some d)) S1) (fun e S1 => D.ex e dl S1)) := ⟨fun h => x_set h⟩
instance {ug : UG} : Step (uAsg ue ug D dl S) (ue dl S (fun d S1 => ug d dl S1 D.nx (fun e S1 => D.ex e dl S1)) (fun e S1 => D.ex e dl S1)) := ⟨fun h => x_asg h⟩
instance  : Step (uPar i j u D dl S) (u dl S (fun ds S1 => match ds with
  | [a, b] => i < dl.length ∧ j < dl.length ∧ D.nx ((dl.set i (some a)).set j (some b)) S1
  | _ => False) (fun e S1 => D.ex e dl S1)) := ⟨fun h => x_par h⟩
instance {KN : Env' → Store → Prop} {gs : GS} : Step (uGSub ua ub gs d dl S KN X) (ua dl S (fun o S1 => ub dl S1 (fun i S2 => gs o i d S2 fun S3 => KN dl S3) X) X) := ⟨fun h => x_gsub h⟩
instance {KN : Env' → Store → Prop} : Step (uGNil [] dl S KN X) (KN dl S) := ⟨fun h => x_gnil h⟩
instance {KN : Env' → Store → Prop} {ug : UG} {ur : UGs} : Step (uGCons ug ur (d :: xs) dl S KN X) (ug d dl S (fun dl2 S2 => ur xs dl2 S2 KN X) X) := ⟨fun h => x_gcons h⟩
instance  : Step (uC d dl S K X) (K d S) := ⟨fun h => x_c h⟩
instance  : Step (uOp g ua ub dl S K X) (ua dl S (fun x S1 => ub dl S1 (fun y S2 => g x y S2 K) X) X) := ⟨fun h => x_op h⟩
instance {g : G1} : Step (uUn g ua dl S K X) (ua dl S (fun x S1 => g x S1 K) X) := ⟨fun h => x_un h⟩
instance  : Step (uNil dl S KA X) (KA [] S) := ⟨fun h => x_nil h⟩
instance  : Step (uCons ua u dl S KA X) (ua dl S (fun x S1 => u dl S1 (fun xs S2 => KA (x :: xs) S2) X) X) := ⟨fun h => x_cons h⟩
instance  : Step (uTup u dl S K X) (u dl S (fun xs S1 => xs.length ≤ sizeLine ∧ K (.tup xs) S1) X) := ⟨fun h => x_tup h⟩
instance  : Step (uLst u dl S K X) (u dl S (fun xs S1 => xs.length ≤ sizeLine ∧ K (.lst xs) S1) X) := ⟨fun h => x_lst h⟩
instance  : Step (uLstC u dl S K X) (u dl S (fun xs S1 => xs.length ≤ sizeLine ∧ K (.cell S1.length) (S1 ++ [.lst xs])) X) := ⟨fun h => x_lstC h⟩
instance {g : GL} : Step (uCB g u dl S K X) (u dl S (fun xs S1 => g xs S1 K) X) := ⟨fun h => x_cb h⟩
instance {F : Spec} {dd : List Dat} : Step (uCall F dd u dl S K X) (u dl S (fun ds S1 => F (ds ++ dd) S1 K X) X) := ⟨fun h => x_call h⟩
instance  : Step (uIf tA ua ub dl S K X) (tA dl S (fun c S1 => if c = true then ua dl S1 K X else ub dl S1 K X) X) := ⟨fun h => x_if h⟩
instance  : Step (uTest ua dl S KT X) (ua dl S (fun d S1 => match d with
  | .bl b => KT b S1
  | _ => False) X) := ⟨fun h => x_test h⟩
instance  : Step (uAnd tA tB dl S KT X) (tA dl S (fun c S1 => if c = true then tB dl S1 KT X else KT false S1) X) := ⟨fun h => x_and h⟩
instance  : Step (uOr tA tB dl S KT X) (tA dl S (fun c S1 => if c = true then KT true S1 else tB dl S1 KT X) X) := ⟨fun h => x_or h⟩
instance  : Step (uNot tA dl S KT X) (tA dl S (fun c S1 => KT (!c) S1) X) := ⟨fun h => x_not h⟩
instance  : Step (uTru ua dl S KT X) (ua dl S (fun d S1 => gTru d S1 KT) X) := ⟨fun h => x_tru h⟩
instance  : Step (uAndV ua ub dl S K X) (ua dl S (fun d S1 => gTru d S1 fun c S2 => if c = true then ub dl S2 K X else K d S2) X) := ⟨fun h => x_andV h⟩
instance  : Step (uOrV ua ub dl S K X) (ua dl S (fun d S1 => gTru d S1 fun c S2 => if c = true then K d S2 else ub dl S2 K X) X) := ⟨fun h => x_orV h⟩
instance  : Step (uNotV ua dl S K X) (ua dl S (fun d S1 => gTru d S1 fun c S2 => K (.bl (!c)) S2) X) := ⟨fun h => x_notV h⟩
instance  : Step (uYes dl S KT X) (KT true S) := ⟨fun h => x_yes h⟩
instance  : Step (uChain g g' ua ub uc dl S K X) (ua dl S (fun x S1 => ub dl S1 (fun y S2 => g x y S2 fun z S3 => match z with
  | .bl c => if c = true then uc dl S3 (fun w S4 => g' y w S4 K) X else K (.bl false) S3
  | _ => False) X) X) := ⟨fun h => x_chain h⟩
instance {A B : Prop} : Step (if true = true then A else B) (A) := ⟨fun h => x_iteT h⟩
instance {A B : Prop} : Step (if false = true then A else B) (B) := ⟨fun h => x_iteF h⟩
instance  : Step (gTru .non S KT) (KT false S) := ⟨fun h => x_tN h⟩
instance {c : Bool} : Step (gTru (.bl c) S KT) (KT c S) := ⟨fun h => x_tB h⟩
instance {i : Int} : Step (gTru (.int i) S KT) (KT (i != 0) S) := ⟨fun h => x_tI h⟩
instance  : Step (gTru (.tup xs) S KT) (KT (!xs.isEmpty) S) := ⟨fun h => x_tT h⟩
instance  : Step (gTru (.lst xs) S KT) (KT (!xs.isEmpty) S) := ⟨fun h => x_tL h⟩
variable {m n : Int} {s t : Str} {p q : Bool}
instance  : Step (gAdd (.int m) (.int n) S K) (K (.int (m + n)) S) := ⟨fun h => x_addI h⟩
instance  : Step (gSub (.int m) (.int n) S K) (K (.int (m - n)) S) := ⟨fun h => x_sub h⟩
instance  : Step (gNeg (.int m) S K) (K (.int (-m)) S) := ⟨fun h => x_neg h⟩
instance  : Step (gLt (.int m) (.int n) S K) (K (.bl (decide (m < n))) S) := ⟨fun h => x_ltI h⟩
instance  : Step (gLe (.int m) (.int n) S K) (K (.bl (decide (m ≤ n))) S) := ⟨fun h => x_leI h⟩
instance  : Step (gGt (.int m) (.int n) S K) (K (.bl (decide (n < m))) S) := ⟨fun h => x_gtI h⟩
instance  : Step (gGe (.int m) (.int n) S K) (K (.bl (decide (n ≤ m))) S) := ⟨fun h => x_geI h⟩
instance  : Step (gLt (.str s) (.str t) S K) (K (.bl (ltS s t)) S) := ⟨fun h => x_ltS h⟩
instance  : Step (gLe (.str s) (.str t) S K) (K (.bl (!ltS t s)) S) := ⟨fun h => x_leS h⟩
instance  : Step (gGt (.str s) (.str t) S K) (K (.bl (ltS t s)) S) := ⟨fun h => x_gtS h⟩
instance  : Step (gGe (.str s) (.str t) S K) (K (.bl (!ltS s t)) S) := ⟨fun h => x_geS h⟩
instance  : Step (gEq (.int m) (.int n) S K) (K (.bl (decide (m = n))) S) := ⟨fun h => x_eqI h⟩
instance  : Step (gEq (.str s) (.str t) S K) (K (.bl (decide (s = t))) S) := ⟨fun h => x_eqS h⟩
instance  : Step (gEq (.bl p) (.bl q) S K) (K (.bl (decide (p = q))) S) := ⟨fun h => x_eqB h⟩
instance  : Step (gNe (.int m) (.int n) S K) (K (.bl (!decide (m = n))) S) := ⟨fun h => x_neI h⟩
instance  : Step (gNe (.str s) (.str t) S K) (K (.bl (!decide (s = t))) S) := ⟨fun h => x_neS h⟩
instance  : Step (gNe (.bl p) (.bl q) S K) (K (.bl (!decide (p = q))) S) := ⟨fun h => x_neB h⟩
instance {c : Nat} : Step (gIn id (.str (sgn c)) (.str s) S K) (K (.bl (decide (c ∈ s.cps.toList))) S) := ⟨fun h => x_inS h⟩
instance {c : Nat} : Step (gIn (!·) (.str (sgn c)) (.str s) S K) (K (.bl (!decide (c ∈ s.cps.toList))) S) := ⟨fun h => x_notinS h⟩
instance  : Step (gInt1 [.int m] S K) (K (.int m) S) := ⟨fun h => x_intI h⟩
instance  : Step (gInt1 [.bl p] S K) (K (.int (if p then 1 else 0)) S) := ⟨fun h => x_intB h⟩
instance  : Step (gAbs [.int m] S K) (K (.int (if m < 0 then -m else m)) S) := ⟨fun h => x_abs h⟩
instance {g : GM} {T : String} : Step (uBM T g ua u dl S K X) (ua dl S (fun d S1 => isT T S1 d ∧ u dl S1 (fun xs S2 => g d xs S2 K) X) X) := ⟨fun h => x_bm h⟩
instance {g : GM} {T : String} : Step (uBM0 T g ua dl S K X) (ua dl S (fun d S1 => isT T S1 d ∧ g d [] S1 K) X) := ⟨fun h => x_bm0 h⟩
instance  : Step (uPart ua dl S KO X) (ua dl S (fun d S1 => match d with
  | .int i => KO (some i) S1
  | _ => False) X) := ⟨fun h => x_part h⟩
instance {KO : Option Int → Store → Prop} : Step (uNo dl S KO X) (KO none S) := ⟨fun h => x_no h⟩
instance {ul uh : UO} : Step (uSl ua ul uh dl S K X) (ua dl S (fun d S1 => ul dl S1 (fun l S2 => uh dl S2 (fun h S3 => gSl d l h S3 K) X) X) X) := ⟨fun h => x_sl h⟩
instance {lo hi : Option Int} : Step (gSl (.lst xs) lo hi S K) (K (.lst (cutD xs lo hi)) S) := ⟨fun h => x_slL h⟩
variable {R : List Dat → (Store → Prop) → Store → Prop}
instance  : Step (uSeqI ua dl S R X) (ua dl S (fun d S1 => ∃ xs, drawD S1 d = some xs ∧ R xs (fun S => drawD S d = some xs) S1) X) := ⟨fun h => x_seqI h⟩
instance  : Step (uR1 u dl S R X) (u dl S (fun ds S1 => match ds with
  | [.int j] => (-(2 ^ 62) ≤ j ∧ j < 2 ^ 62) ∧ R (rangeD 0 j.toNat) (fun _ => True) S1
  | _ => False) X) := ⟨fun h => x_r1 h⟩
instance  : Step (uR2 u dl S R X) (u dl S (fun ds S1 => match ds with
  | [.int i, .int j] => (-(2 ^ 62) ≤ i ∧ i < 2 ^ 62 ∧ -(2 ^ 62) ≤ j ∧ j < 2 ^ 62) ∧ R (rangeD i (j - i).toNat) (fun _ => True) S1
  | _ => False) X) := ⟨fun h => x_r2 h⟩
instance  : Step (uZ u dl S R X) (u dl S (fun ds S1 => match ds with
  | [a, b] => ∃ xs ys, drawD S1 a = some xs ∧ drawD S1 b = some ys ∧ R (pairs xs ys) (fun S => drawD S a = some xs ∧ drawD S b = some ys) S1
  | _ => False) X) := ⟨fun h => x_z h⟩
instance {ui : UI} {own : List Nat} {ug : UG} {tt : UT} {fin : List Dat → Store → KE → Prop} : Step (uLcW ui own ug tt ue fin dl S K X) (ui dl S (fun ds P S1 => ∃ I : Nat → List Dat → Store → Prop, I 0 [] S1 ∧
  (∀ (j : Nat) d acc S2, ds[j]? = some d → I j acc S2 → P S2 ∧ acc.length < sizeLine ∧ ug d (wipeD dl own) S2 (fun dl2 S3 => tt dl2 S3 (fun b S4 => if b = true then ue dl2 S4 (fun y S5 => I (j + 1) (acc ++ [y]) S5) XF0 else I (j + 1) acc S4) XF0) XF0) ∧
  ∀ acc S2, I ds.length acc S2 → P S2 ∧ fin acc S2 K) X) := ⟨fun h => x_lcW h⟩
instance {ui : UI} {own : List Nat} {ug : UG} {tt : UT} : Step (uLc ui own ug tt ue dl S K X) (uLcW ui own ug tt ue (fun acc S K => K (.lst acc) S) dl S K X) := ⟨fun h => x_lc h⟩
instance {ui : UI} {own : List Nat} {ug : UG} {tt : UT} : Step (uLcC ui own ug tt ue dl S K X) (uLcW ui own ug tt ue (fun acc S K => K (.cell S.length) (S ++ [.lst acc])) dl S K X) := ⟨fun h => x_lcC h⟩
instance {ui : UI} {ug : UG} {b : US} {D : DEnds} {dl : Env'} {S : Store} : Step (uFor ui ug b D dl S) (ui dl S (fun ds P S1 => ∃ I : Nat → Env' → Store → Prop, I 0 dl S1 ∧
  (∀ (i : Nat) d dl1 S2, ds[i]? = some d → I i dl1 S2 → P S2 ∧ ug d dl1 S2 (fun dl2 S3 => b { D with nx := GcTo S1.length (I (i + 1)), ct := GcTo S1.length (I (i + 1)), bk := D.nx } dl2 S3) (fun e S3 => D.ex e dl1 S3)) ∧
  ∀ dl1 S2, I ds.length dl1 S2 → P S2 ∧ D.nx dl1 S2) (fun e S1 => D.ex e dl S1)) := ⟨fun h => x_for h⟩
instance {KF : PySem.W.Frag} {dl : Env'} {S : Store} {K : KE} {X : KX} {ua : UE} {ul uh : UO} : Step (uSlQ KF ua ul uh dl S K X) (ua dl S (fun d S1 => ul dl S1 (fun l S2 => uh dl S2 (fun h S3 => ∃ (ns ms : List Int), d = .sq KF ns ∧ cutV (ns.map V.int) l h = ms.map V.int ∧ K (.lst (ms.map .int)) S3) X) X) X) := ⟨fun h => x_slQ h⟩
end
section
variable {X : Cx} {S : Store} {K : KE} {i j : Int}
instance  : Step (gMin2 [.int i, .int j] S K) (K (.int (if j < i then j else i)) S) := ⟨fun h => x_min2 h⟩
instance  : Step (gMax2 [.int i, .int j] S K) (K (.int (if j > i then j else i)) S) := ⟨fun h => x_max2 h⟩
end
section
variable {X : Cx} {W : WX} {e : Expr} {ta : TA} {ua : UA} {p pos tpos : Pos} {elts : List Expr} {kk : Nat}
instance {dl : Env'} {S : Store} {R : List Dat → (Store → Prop) → Store → Prop} {X : KX} : Step (uEn ua dl S R X) (ua dl S (fun ds S1 => match ds with
  | [a] => ∃ xs, lstD S1 a = some xs ∧ R (enumD 0 xs) (fun S => lstD S a = some xs) S1
  | _ => False) X) := ⟨fun h => x_en h⟩
end
section
variable {dl : Env'} {S : Store} {K : KE} {X : KX} {D : DEnds} {ua uo uv : UE} {u : UA} {Cs : List Addr} {MS : List (Addr × Spec)} {f m : Str} {C : Addr} {F : Spec} {dd : List Dat}
instance  : Step (uFld Cs f ua dl S K X) (ua dl S (fun d S1 => ∃ C ns xs x, C ∈ Cs ∧ insD S1 d = some (C, ns, xs) ∧ (ns.zip xs).lookup f = some x ∧ K x S1) X) := ⟨fun h => x_fld h⟩
instance  : Step (uSetF Cs f uo uv D dl S) (uv dl S (fun y S1 => uo dl S1 (fun d S2 => ∃ n C ns xs, d = .cell n ∧ S2[n]? = some (.ins C ns xs) ∧ C ∈ Cs ∧ ns.length < 1000 ∧
  D.nx dl (S2.set n (.ins C (putN f ns) (putX f y ns xs)))) (fun e S2 => D.ex e dl S2)) (fun e S1 => D.ex e dl S1)) := ⟨fun h => x_setF h⟩
instance  : Step (uMeth MS m dd uo u dl S K X) (uo dl S (fun d S1 => ∃ C ns xs F, insD S1 d = some (C, ns, xs) ∧ m ∉ ns ∧ (C, F) ∈ MS ∧ u dl S1 (fun ds S2 => F (d :: (ds ++ dd)) S2 K X) X) X) := ⟨fun h => x_meth h⟩
instance  : Step (uProp MS uo dl S K X) (uo dl S (fun d S1 => ∃ C ns xs F, insD S1 d = some (C, ns, xs) ∧ (C, F) ∈ MS ∧ F [d] S1 K fun _ _ => False) X) := ⟨fun h => x_prop h⟩
instance  : Step (uMake C F dd u dl S K X) (u dl S (fun ds S1 => F (.cell S1.length :: (ds ++ dd)) (S1 ++ [.ins C [] []]) (fun d S2 => d = .non ∧ ExitTo S1 K (.cell S1.length) S2) (fun e S2 => ExitX S1 X e [] S2)) X) := ⟨fun h => x_make h⟩
end
section
variable {α β : Type} {dl : Env'} {S : Store} {K : KE} {X : KX} {D : DEnds} {ug : UG} {tt : UT} {ue : UE} {P : Store → Prop} {own : List Nat}
end
section
variable {S : Store} {K : KE} {a b c d : Dat} {r xs : List Dat}
instance  : Step (gIx (.tup (a :: r)) (.int 0) S K) (K a S) := ⟨fun h => x_ixt0 h⟩
instance  : Step (gIx (.tup (a :: b :: r)) (.int 1) S K) (K b S) := ⟨fun h => x_ixt1 h⟩
instance  : Step (gIx (.tup (a :: b :: c :: r)) (.int 2) S K) (K c S) := ⟨fun h => x_ixt2 h⟩
instance  : Step (gIx (.tup (a :: b :: c :: d :: r)) (.int 3) S K) (K d S) := ⟨fun h => x_ixt3 h⟩
instance  : Step (gLen [.tup xs] S K) (K (.int xs.length) S) := ⟨fun h => x_lenT h⟩
end
section
variable {S : Store} {K : KE} {xs ys : List Dat}
instance {lo hi : Option Int} : Step (gSl (.tup xs) lo hi S K) (K (.tup (cutD xs lo hi)) S) := ⟨fun h => x_slT h⟩
end
section
variable {X : Cx} {W : WX} {k j n : Nat} {x : Str} {ps ks : List Str} {e : Expr} {es : List Expr} {kws : List Keyword} {t tk' : TA} {u uk : UA} {pos p : Pos} {gV : List V → List V → List V} {gD : List Dat → List Dat → List Dat} {C : Addr} {F : Spec}
end
section
variable {dl : Env'} {S : Store} {K : KE} {X : KX} {C : Addr} {F : Spec} {n m : Nat} {gD : List Dat → List Dat → List Dat} {ua uk : UA}
instance  : Step (uMakeK C F n m gD ua uk dl S K X) (ua dl S (fun ds S1 => uk dl S1 (fun es S2 => ds.length = n ∧ es.length = m ∧ F (gD (.cell S2.length :: ds) es) (S2 ++ [.ins C [] []]) (fun d S3 => d = .non ∧ ExitTo S2 K (.cell S2.length) S3) (fun e S3 => ExitX S2 X e [] S3)) X) X) := ⟨fun h => x_makeK h⟩
end
section
variable {P : Program} {w : World} {K : PySem.W.Frag} {mg : Str → Option Value} {base : Heap} {CX : CXT} {k : Nat} {f C : Addr} {fd : FuncData} {ps : List Str} {sp sp' : Sp} {nf : List (Str × Fs)} {n : Nat} {c1 c2 : List V → Prop}
end
section
variable {dl : Env'} {S : Store} {D : DEnds} {C : Addr} {c f g : Str} {y z : Dat} {KX' : KX}
end
section
variable {S : Store} {K : KE} {x : Dat} {xs : List Dat} {n : Nat}
end
section
variable {dl : Env'} {S : Store} {K : KE} {X : KX} {G : (LamI → List (Str × Addr) → Option UB) → Spec} {Bt : Env' → LamI → List (Str × Addr) → Option UB} {ua : UA} {l : LamI} {cl : List (Str × Addr)}
instance  : Step (uGive G Bt ua dl S K X) (ua dl S (fun ds S1 => G (Bt dl) ds S1 K fun _ _ => False) X) := ⟨fun h => x_give h⟩
instance  : Step (uLam l cl dl S K X) (K (.fn l cl) S) := ⟨fun h => x_lam h⟩
end
section
variable {X : Cx} {k j : Nat} {f : Addr} {fd : FuncData} {ps : List Str} {sp : Sp}
end
section
variable {X : Cx} {MS : List (Addr × Spec)} {k j : Nat}
end
section
variable {dl : Env'} {S : Store} {K : KE} {X : KX} {MS : List (Addr × Spec)} {d : Dat} {C : Addr} {ns : List Str} {xs : List Dat} {F : Spec} {n : Nat} {z : Str}
end
section
variable {dl : Env'} {S : Store} {K : KE} {Kz : Str → Store → Prop} {X : KX} {us : List UE} {u : UE} {acc y : Str} {i : Int}
instance  : Step (uJoin us dl S K X) (uJs us Str.empty dl S (fun z S1 => K (.str z) S1) X) := ⟨fun h => x_joined h⟩
instance  : Step (uJs [] acc dl S Kz X) (Kz acc S) := ⟨fun h => x_jn h⟩
instance  : Step (uJs (u :: us) acc dl S Kz X) (u dl S (fun d S1 => ∃ y : Str, d = .str y ∧ (acc ++ y).length ≤ sizeLine ∧ uJs us (acc ++ y) dl S1 Kz X) X) := ⟨fun h => x_jc h⟩
end
section
variable {prog : Program} {w : World} {A : Around} {E : Value → Shared → Prop} {s : Shared}
end
section
variable {X : Cx} {W : WX} {e : Expr} {ta : TA} {ua : UA} {p pos tpos : Pos} {elts : List Expr} {kk : Nat}
instance {k0 : Int} {dl : Env'} {S : Store} {R : List Dat → (Store → Prop) → Store → Prop} {Xk : KX} : Step (uEnK k0 ua dl S R Xk) (ua dl S (fun ds S1 => match ds with
  | [a] => ∃ xs, drawD S1 a = some xs ∧ R (enumD k0 xs) (fun S => drawD S a = some xs) S1
  | _ => False) Xk) := ⟨fun h => x_enK h⟩
end
section
variable {L L' : LL} {kvs : List (Key × V)} {ps : List (Key × Dat)} {k : Key} {v : V} {d : Dat}
end
section
variable {X : Cx} {W : WX} {o i e : Expr} {td ty : TE} {ud uy : UE} {pos apos cpos : Pos}
end
section
variable {S : Store} {K : KE} {x y : Dat} {ps : List (Key × Dat)} {k : Key} {d : Dat} {dl : Env'} {X : KX} {ud uy : UE}
instance  : Step (uDGet ud uy dl S K X) (ud dl S (fun d S1 => (∃ ps, view S1 d = some (dctD ps)) ∧ uy dl S1 (fun y S2 => ∃ ps k, view S2 d = some (dctD ps) ∧ kOf y = some k ∧ K ((valD ps k).getD .non) S2) X) X) := ⟨fun h => x_dget h⟩
end
section
variable {X : Cx} {W : WX}
end
section
variable {S : Store} {K : KE} {dl : Env'} {X : KX} {ue : UE}
instance  : Step (uSortSet ue dl S K X) (ue dl S (fun d S1 => ∃ ns : List Int, d = .tup (ns.map Dat.int) ∧ ns.length < 60 ∧ ∀ ys : List Int, ys.Pairwise (· < ·) → (∀ k, k ∈ ys ↔ k ∈ ns) → K (.lst (ys.map Dat.int)) S1) X) := ⟨fun h => x_sortset h⟩
end
section
variable {H : Hp} {L : LL} {S : Store} {T : List (Addr × HO)}
end
section
variable {X : Cx} {W : WX} {pos : Pos}
end
section
variable {S : Store} {K : KE} {dl : Env'} {X : KX} {us : List (UE × UE)} {uk uv ud uy uz : UE} {KP : List (Dat × Dat) → Store → Prop}
instance  : Step (uDisp false us dl S K X) (uPairs us dl S (fun qs S1 => ∃ ps : List (Key × Dat), qs = ps.map (fun p => (keyD p.1, p.2)) ∧ ps.length ≤ 15 ∧ K (dctD (mergeD [] ps)) S1) X) := ⟨fun h => x_disp h⟩
instance  : Step (uDisp true us dl S K X) (uPairs us dl S (fun qs S1 => ∃ ps : List (Key × Dat), qs = ps.map (fun p => (keyD p.1, p.2)) ∧ ps.length ≤ 15 ∧ K (.cell S1.length) (S1 ++ [dctD (mergeD [] ps)])) X) := ⟨fun h => x_dispC h⟩
instance  : Step (uPairs ((uk, uv) :: us) dl S KP X) (uk dl S (fun x S1 => uv dl S1 (fun y S2 => uPairs us dl S2 (fun qs S3 => KP ((x, y) :: qs) S3) X) X) X) := ⟨fun h => x_pairs h⟩
instance  : Step (uPairs [] dl S KP X) (KP [] S) := ⟨fun h => x_pairs0 h⟩
instance  : Step (uDGet2 ud uy uz dl S K X) (ud dl S (fun d S1 => (∃ ps, view S1 d = some (dctD ps)) ∧ uy dl S1 (fun y S2 => uz dl S2 (fun z S3 => ∃ ps k, view S3 d = some (dctD ps) ∧ kOf y = some k ∧ K ((valD ps k).getD z) S3) X) X) X) := ⟨fun h => x_dget2 h⟩
end
section
variable {X : Cx} {W : WX}
end
section
variable {S : Store} {K : KE} {dl : Env'} {X : KX} {ue uf : UE} {KR : Int → Int → Store → Prop} {ur : Env' → Store → (Int → Int → Store → Prop) → KX → Prop}
instance  : Step (uG1 ue dl S KR X) (ue dl S (fun d S1 => ∃ n : Int, d = .int n ∧ KR 0 n S1) X) := ⟨fun h => x_g1 h⟩
instance  : Step (uListRg false ur dl S K X) (ur dl S (fun a b S1 => RgOk a b ∧ K (.lst (rgD a b)) S1) X) := ⟨fun h => x_listRg h⟩
instance  : Step (uListRg true ur dl S K X) (ur dl S (fun a b S1 => RgOk a b ∧ K (.cell S1.length) (S1 ++ [.lst (rgD a b)])) X) := ⟨fun h => x_listRgC h⟩
instance  : Step (uTupRg ur dl S K X) (ur dl S (fun a b S1 => RgOk a b ∧ K (.tup (rgD a b)) S1) X) := ⟨fun h => x_tupRg h⟩
end
instance {K : PySem.W.Frag} {ds : List Dat} {S : Store} {Kt : KE} {Xo : KX} : Open (sp_ascends K ds S Kt Xo) ((∃ z : Str, ds = [.str z] ∧ z.length ≤ 1000000 ∧ (goK Kt) (.bl (ascL z.cps.toList)) S) ∨ ∃ ns : List Nat, ds = [.tup (ns.map fun (n : Nat) => Dat.int (n : Int))] ∧ ns.length ≤ 1000000 ∧ (goK Kt) (.bl (ascL ns)) S) := ⟨fun h => o_ascends h⟩
instance {K : PySem.W.Frag} {ds : List Dat} {S : Store} {Kt : KE} {Xo : KX} : Open (sp_law_bag K ds S Kt Xo) (∃ ns : List Int, ds = [.sq K ns] ∧ ns.length ≤ 63 ∧ ∀ bag, IsBag bag → (goK Kt) (.cell S.length) (S ++ [bag])) := ⟨fun h => o_law_bag h⟩
instance {K : PySem.W.Frag} {ds : List Dat} {S : Store} {Kt : KE} {Xo : KX} : Open (sp_law_pull K ds S Kt Xo) (∃ (b : Nat) (n : Int) (bag : Dat), ds = [.cell b, .int n] ∧ 0 < n ∧ n < 1073741824 ∧ S[b]? = some bag ∧ IsBag bag ∧ ∀ (k : Nat) bag', (k : Int) < n → IsBag bag' → (goK Kt) (.int k) (S.set b bag')) := ⟨fun h => o_law_pull h⟩
instance {K : PySem.W.Frag} {ds : List Dat} {S : Store} {Kt : KE} {Xo : KX} : Open (sp_law_signs K ds S Kt Xo) (∃ (b : Nat) (bag : Dat), ds = [.cell b] ∧ S[b]? = some bag ∧ IsBag bag ∧ ∀ z bag', isAlpha z = true → IsBag bag' → (goK Kt) (.str z) (S.set b bag')) := ⟨fun h => o_law_signs h⟩
instance {K : PySem.W.Frag} {ds : List Dat} {S : Store} {Kt : KE} {Xo : KX} : Open (sp_law_text K ds S Kt Xo) (∃ (b : Nat) (bag : Dat) (z : Str) (n : Nat), ds = [.cell b, .str z, natD n] ∧ n ≤ 1000 ∧ 0 < z.length ∧ z.length ≤ 1000 ∧ S[b]? = some bag ∧ IsBag bag ∧ ∀ t : Str, ∀ bag', t.length = n → isWord z t = true → IsBag bag' → (goK Kt) (.str t) (S.set b bag')) := ⟨fun h => o_law_text h⟩
instance {K : PySem.W.Frag} {ds : List Dat} {S : Store} {Kt : KE} {Xo : KX} : Open (sp_is_row K ds S Kt Xo) (∃ (d : Dat) (w m : Nat), ds = [d, natD w, natD m] ∧ okRowK S d ∧ (goK Kt) (.bl (isRowB w m d)) S) := ⟨fun h => o_is_row h⟩
instance {K : PySem.W.Frag} {ds : List Dat} {S : Store} {Kt : KE} {X : KX} : Open (sp_Machine_need_state K ds S Kt X) (∃ (d sv : Dat) (a : Str) (g : List (List Nat)) (s : Nat), ds = [d, sv] ∧ isMa K S d a g s ∧ ((∃ q : Nat, sv = natD q ∧ q < g.length ∧ (goK Kt) .non S) ∨ (notIn S sv g.length ∧ X (excG K "InvalidState" "given" sv) S))) := ⟨fun h => o_Machine_need_state h⟩
instance {K : PySem.W.Frag} {ds : List Dat} {S : Store} {Kt : KE} {X : KX} : Open (sp_Machine_led K ds S Kt X) (∃ (d sv v : Dat) (a : Str) (g : List (List Nat)) (s : Nat), ds = [d, sv, v] ∧ isMa K S d a g s ∧ ((notIn S sv g.length ∧ X (excG K "InvalidState" "given" sv) S) ∨ (∃ q : Nat, sv = natD q ∧ q < g.length ∧ ((badWord S a v ∧ X (excIW K v) S) ∨ ∃ z : Str, v = .str z ∧ z.length ≤ 1000000 ∧ isWord a z = true ∧ (goK Kt) (natD (ledF a g q z.cps.toList)) S)))) := ⟨fun h => o_Machine_led h⟩
instance {K : PySem.W.Frag} {ds : List Dat} {S : Store} {Kt : KE} {X : KX} : Open (sp_Machine_after K ds S Kt X) (∃ (d v : Dat) (a : Str) (g : List (List Nat)) (s : Nat), ds = [d, v] ∧ isMa K S d a g s ∧ ((badWord S a v ∧ X (excIW K v) S) ∨ ∃ z : Str, v = .str z ∧ z.length ≤ 1000000 ∧ isWord a z = true ∧ (goK Kt) (natD (ledF a g s z.cps.toList)) S)) := ⟨fun h => o_Machine_after h⟩
instance {K : PySem.W.Frag} {ds : List Dat} {S : Store} {Kt : KE} {Xo : KX} : Open (sp_law_goals K ds S Kt Xo) (∃ (b : Nat) (bag : Dat) (m w : Nat), ds = [.cell b, natD m, natD w] ∧ 0 < m ∧ m ≤ 1000 ∧ w ≤ 1000 ∧ S[b]? = some bag ∧ IsBag bag ∧ ∀ (g : List (List Nat)) bag', g.length = m → okRows w g → IsBag bag' → (goK Kt) (.lst (g.map encRow)) (S.set b bag')) := ⟨fun h => o_law_goals h⟩
instance {K : PySem.W.Frag} {ds : List Dat} {S : Store} {Kt : KE} {Xo : KX} : Open (sp_law_go K ds S Kt Xo) (∃ (a z : Str) (g : List (List Nat)) (q : Nat), ds = [.lst (g.map encRow), .str a, natD q, .str z] ∧ okRows a.length g ∧ q < g.length ∧ isWord a z = true ∧ a.length ≤ 1000000 ∧ z.length ≤ 1000000 ∧ (goK Kt) (natD (ledF a g q z.cps.toList)) S) := ⟨fun h => o_law_go h⟩
instance {K : PySem.W.Frag} {ds : List Dat} {S : Store} {Kt : KE} {Xo : KX} : Open (sp_law_number_like K ds S Kt Xo) (∃ (b : Nat) (bag : Dat) (m : Nat), ds = [.cell b, natD m] ∧ S[b]? = some bag ∧ IsBag bag ∧ ∀ v bag', numLike m v → IsBag bag' → (goK Kt) v (S.set b bag')) := ⟨fun h => o_law_number_like h⟩
instance {K : PySem.W.Frag} {ds : List Dat} {S : Store} {Kt : KE} {Xo : KX} : Open (sp_Machine_alphabet K ds S Kt Xo) (∃ (d : Dat) (a : Str) (g : List (List Nat)) (s : Nat), ds = [d] ∧ isMa K S d a g s ∧ (goK Kt) (.str a) S) := ⟨fun h => o_Machine_alphabet h⟩
instance {K : PySem.W.Frag} {ds : List Dat} {S : Store} {Kt : KE} {Xo : KX} : Open (sp_Machine_start K ds S Kt Xo) (∃ (d : Dat) (a : Str) (g : List (List Nat)) (s : Nat), ds = [d] ∧ isMa K S d a g s ∧ (goK Kt) (natD s) S) := ⟨fun h => o_Machine_start h⟩
instance {K : PySem.W.Frag} {ds : List Dat} {S : Store} {Kt : KE} {Xo : KX} : Open (sp_Machine_rows K ds S Kt Xo) (∃ (d : Dat) (a : Str) (g : List (List Nat)) (s : Nat), ds = [d] ∧ isMa K S d a g s ∧ (goK Kt) (.cell S.length) (S ++ [.lst (g.map encRow)])) := ⟨fun h => o_Machine_rows h⟩
instance {K : PySem.W.Frag} {ds : List Dat} {S : Store} {Kt : KE} {Xo : KX} : Open (sp_Machine_len K ds S Kt Xo) (∃ (d : Dat) (a : Str) (g : List (List Nat)) (s : Nat), ds = [d] ∧ isMa K S d a g s ∧ (goK Kt) (natD g.length) S) := ⟨fun h => o_Machine_len h⟩
instance {K : PySem.W.Frag} {ds : List Dat} {S : Store} {Kt : KE} {Xo : KX} : Open (sp_Machine_repr K ds S Kt Xo) (∃ (d : Dat) (a : Str) (g : List (List Nat)) (s : Nat), ds = [d] ∧ isMa K S d a g s ∧ (goK Kt) (.str (Str.append (Str.append "Machine(" (toString (g.length : Int))) " states)")) S) := ⟨fun h => o_Machine_repr h⟩
instance {K : PySem.W.Frag} {ds : List Dat} {S : Store} {Kt : KE} {Xo : KX} : Open (sp_first_words K ds S Kt Xo) (∃ (a : Str) (g : List (List Nat)) (s : Nat), ds = [.lst (g.map encRow), .lst [natD s], .str a] ∧ okRows a.length g ∧ a.length ≤ 4 ∧ s < g.length ∧ g.length ≤ 1000 ∧ (goK Kt) (wordsD (reachF a g s)) S) := ⟨fun h => o_first_words h⟩
instance {K : PySem.W.Frag} {ds : List Dat} {S : Store} {Kt : KE} {Xo : KX} : Open (sp_Machine_words_to_states K ds S Kt Xo) (∃ (d : Dat) (a : Str) (g : List (List Nat)) (s : Nat), ds = [d] ∧ isMa K S d a g s ∧ (goK Kt) (wordsD (reachF a g s)) S) := ⟨fun h => o_Machine_words_to_states h⟩
instance {K : PySem.W.Frag} {ds : List Dat} {S : Store} {Kt : KE} {Xo : KX} : Open (sp_Machine_reachable K ds S Kt Xo) (∃ (d : Dat) (a : Str) (g : List (List Nat)) (s : Nat), ds = [d] ∧ isMa K S d a g s ∧ g.length < 64 ∧ ∀ ys : List Int, ys.Perm ((reachF a g s).map fun p => (p.1 : Int)) → ys.Pairwise (· ≤ ·) → (goK Kt) (.cell S.length) (S ++ [.lst (ys.map Dat.int)])) := ⟨fun h => o_Machine_reachable h⟩
instance {K : PySem.W.Frag} {ds : List Dat} {S : Store} {Kt : KE} {X : KX} : Open (sp_Machine_first_word K ds S Kt X) (∃ (d sv : Dat) (a : Str) (g : List (List Nat)) (s : Nat), ds = [d, sv] ∧ isMa K S d a g s ∧ ((∃ q : Nat, sv = natD q ∧ q < g.length ∧ (goK Kt) ((valD ((reachF a g s).map kp) (.inl (q : Int))).getD .non) S) ∨ (notIn S sv g.length ∧ X (excG K "InvalidState" "given" sv) S))) := ⟨fun h => o_Machine_first_word h⟩
instance {K : PySem.W.Frag} {ds : List Dat} {S : Store} {Kt : KE} {Xo : KX} : Open (sp_law_reach K ds S Kt Xo) (∃ (a : Str) (g : List (List Nat)) (s : Nat), ds = [.lst (g.map encRow), .str a, natD s] ∧ okRows a.length g ∧ a.length ≤ 4 ∧ s < g.length ∧ g.length ≤ 1000 ∧ (goK Kt) (.lst ((reachF a g s).map fun p => pairD (kp p))) S) := ⟨fun h => o_law_reach h⟩
instance {K : PySem.W.Frag} {ds : List Dat} {S : Store} {Kt : KE} {X : KX} : Open (sp_small_reach K ds S Kt X) (∃ (d : Dat) (a : Str) (g : List (List Nat)) (s : Nat), ds = [d] ∧ isMa K S d a g s ∧ g.length < 64 ∧ ((6 < (reachN a g s).length ∧ X (excTM K "states" 6) S) ∨ ((reachN a g s).length ≤ 6 ∧ ∀ ys : List Int, ys.Perm (upI (reachN a g s)) → ys.Pairwise (· ≤ ·) → (goK Kt) (.lst (intDs ys)) S))) := ⟨fun h => o_small_reach h⟩
instance {K : PySem.W.Frag} {ds : List Dat} {S : Store} {Kt : KE} {Xo : KX} : Open (sp_is_set K ds S Kt Xo) (∃ (ys : List Int) (R : List Nat) (v : Dat), ds = [.lst (intDs ys), v] ∧ ys.Perm (upI R) ∧ okRowK S v ∧ (goK Kt) (.bl (isSetB R v)) S) := ⟨fun h => o_is_set h⟩
instance {K : PySem.W.Frag} {ds : List Dat} {S : Store} {Kt : KE} {X : KX} : Open (sp_need_set K ds S Kt X) (∃ (d v : Dat) (a : Str) (g : List (List Nat)) (s : Nat), ds = [d, v] ∧ isMa K S d a g s ∧ g.length < 64 ∧ okRowK S v ∧ goSet K S X v (reachN a g s) ((goK Kt) .non S)) := ⟨fun h => o_need_set h⟩
instance {K : PySem.W.Frag} {ds : List Dat} {S : Store} {Kt : KE} {Xo : KX} : Open (sp_led_set K ds S Kt Xo) (∃ (d : Dat) (qs : List Nat) (w a : Str) (g : List (List Nat)) (s : Nat), ds = [d, .tup (intDs (upI qs)), .str w] ∧ isMa K S d a g s ∧ (∀ q ∈ qs, q < g.length) ∧ qs.length < 60 ∧ isWord a w = true ∧ w.length ≤ 1000000 ∧ (goK Kt) (.tup (intDs (ledI a g qs w))) S) := ⟨fun h => o_led_set h⟩
instance {K : PySem.W.Frag} {ds : List Dat} {S : Store} {Kt : KE} {X : KX} : Open (sp_image K ds S Kt X) (∃ (d v wd : Dat) (a : Str) (g : List (List Nat)) (s : Nat), ds = [d, v, wd] ∧ isMa K S d a g s ∧ g.length < 64 ∧ okRowK S v ∧ goSet K S X v (reachN a g s) (∃ qs : List Nat, v = .tup (intDs (upI qs)) ∧ qs.length < 60 ∧ (∀ q ∈ qs, q < g.length) ∧ goWord K S X a wd fun w => ∀ ys : List Int, ys.Pairwise (· < ·) → (∀ k, k ∈ ys ↔ k ∈ ledI a g qs w) → (goK Kt) (.tup (intDs ys)) S)) := ⟨fun h => o_image h⟩
instance {K : PySem.W.Frag} {ds : List Dat} {S : Store} {Kt : KE} {X : KX} : Open (sp_turn K ds S Kt X) (∃ (d v wd : Dat) (a : Str) (g : List (List Nat)) (s : Nat), ds = [d, v, wd] ∧ isMa K S d a g s ∧ g.length < 64 ∧ okRowK S v ∧ goSet K S X v (reachN a g s) (∃ qs : List Nat, v = .tup (intDs (upI qs)) ∧ qs.length < 60 ∧ (∀ q ∈ qs, q < g.length) ∧ goWord K S X a wd fun w => ∀ ys : List Int, ys.Perm (ledI a g qs w) → ys.Pairwise (· ≤ ·) → (goK Kt) (if ys = upI qs then .tup (intDs (ledI a g qs w)) else .non) S)) := ⟨fun h => o_turn h⟩
end DL
/-! SC: circuits: lines, their sizes, their values; promises. -/
namespace DL
open PySem L2
/-- a line of a circuit -/
inductive CL where
  | const (n : Nat) | letter | wire (r : Nat) (t : List Nat) | join (r q : Nat) (t : List (List Nat)) | latch (n f r : Nat) | counter (p f r : Nat)
def encCL : CL → Dat
  | .const n => .tup [.str "const", natD n]
  | .letter => .tup [.str "letter"]
  | .wire r t => .tup [.str "wire", natD r, encRow t]
  | .join r q t => .tup [.str "join", natD r, natD q, .tup (t.map encRow)]
  | .latch n f r => .tup [.str "latch", natD n, natD f, natD r]
  | .counter p f r => .tup [.str "counter", natD p, natD f, natD r]
def isCell : CL → Bool
  | .latch _ _ _ => true
  | .counter _ _ _ => true
  | _ => false
@[reducible] def nameCL : CL → Str
  | .const _ => "const" | .letter => "letter" | .wire _ _ => "wire" | .join _ _ _ => "join" | .latch _ _ _ => "latch" | .counter _ _ _ => "counter"
def maxN (xs : List Nat) : Nat := xs.foldr max 0
def sizeCL (w : Nat) : CL → Nat
  | .const n => n + 1
  | .letter => w
  | .wire _ t => maxN t + 1
  | .join _ _ t => maxN (t.map maxN) + 1
  | .latch n _ _ => n
  | .counter p _ _ => p
def szOf (w : Nat) (ls : List CL) : List Nat := ls.map (sizeCL w)
/-- what a line needs, the sizes of the lines ahead known -/
def okCL (sz : List Nat) : CL → Prop
  | .const n => n ≤ 999
  | .letter => True
  | .wire r t => sz[r]? = some t.length ∧ 0 < t.length ∧ ∀ x ∈ t, x ≤ 999
  | .join r q t => sz[r]? = some t.length ∧ 0 < t.length ∧ ∃ m, sz[q]? = some m ∧ 0 < m ∧ ∀ row ∈ t, row.length = m ∧ ∀ x ∈ row, x ≤ 999
  | .latch n f r => 2 ≤ n ∧ n ≤ 999 ∧ f < n ∧ ∃ m, sz[r]? = some m ∧ m ≤ n + 1
  | .counter p f r => isPrime (p : Int) ∧ 2 ≤ p ∧ p ≤ 97 ∧ f < p ∧ r < sz.length
def okCs (w : Nat) (ls : List CL) : Prop := ∀ (i : Nat) l, ls[i]? = some l → okCL ((szOf w ls).take i) l
/-- whether a line looks at the letter, of those ahead known -/
def lookF (lk : List Bool) : CL → Bool
  | .letter => true
  | .wire r _ => lk.getD r false
  | .join r q _ => lk.getD r false || lk.getD q false
  | _ => false
def lkOf (ls : List CL) : List Bool := ls.foldl (fun acc l => acc ++ [lookF acc l]) []
def cellsOf (ls : List CL) : List Nat := (((ls.zipIdx 0).filter fun p => isCell p.1).map (·.2))
def refCL : CL → Nat
  | .latch _ _ r => r
  | .counter _ _ r => r
  | _ => 0
def refsCL : CL → List Nat
  | .wire r _ => [r]
  | .join r q _ => [r, q]
  | .latch _ _ r => [r]
  | .counter _ _ r => [r]
  | _ => []
def firstCL : CL → Nat
  | .latch _ f _ => f
  | .counter _ f _ => f
  | _ => 0
/-- the value of a line that is no cell -/
def valueL (l : CL) (vals : List Nat) (c : Nat) : Nat := match l with
  | .const n => n
  | .letter => c
  | .wire r t => t.getD (vals.getD r 0) 0
  | .join r q t => (t.getD (vals.getD r 0) []).getD (vals.getD q 0) 0
  | _ => 0
def valsG : List CL → List Nat → List Nat → Nat → List Nat
  | [], acc, _, _ => acc
  | l :: ls, acc, full, c => valsG ls (acc ++ [if isCell l then full.headD 0 else valueL l acc c]) full.tail c
/-- the values of all lines, the sides by the index of a line -/
def valsF (ls : List CL) (full : List Nat) (c : Nat) : List Nat := valsG ls [] full c
/-- the sides of the cells alone -/
def pack (ls : List CL) (full : List Nat) : List Nat := ((ls.zip full).filter fun p => isCell p.1).map (·.2)
def changedL (l : CL) (side v : Nat) : Nat := match l with
  | .counter p _ _ => (side + v) % p
  | _ => if v = 0 then side else v - 1
def firstF (ls : List CL) : List Nat := ls.map firstCL
def stepF (ls : List CL) (full : List Nat) (c : Nat) : List Nat := (ls.zip full).map fun p => if isCell p.1 then changedL p.1 p.2 ((valsF ls full c).getD (refCL p.1) 0) else p.2
def runF (a : Str) (ls : List CL) (full : List Nat) (cs : List Nat) : List Nat := cs.foldl (fun f c => stepF ls f (a.cps.toList.idxOf c)) full
def lastF (ls : List CL) (full : List Nat) : Nat := (valsF ls full 0).getD (ls.length - 1) 0
/-- sides that may stand -/
def okFull (w : Nat) (ls : List CL) (full : List Nat) : Prop := full.length = ls.length ∧ ∀ (i : Nat) l x, ls[i]? = some l → full[i]? = some x → if isCell l then x < sizeCL w l else x = 0
def cirNs : List Str := ["own_alphabet", "own_lines", "own_sizes", "looking", "own_cells"]
def cirD (K : PySem.W.Frag) (a : Str) (ls : List CL) : Dat := .ins (He.ga K "Circuit") cirNs [.str a, .lst (ls.map encCL), .lst (natDs (szOf a.length ls)), .lst ((lkOf ls).map Dat.bl), .lst (natDs (cellsOf ls))]
structure isCi (K : PySem.W.Frag) (S : Store) (d : Dat) (a : Str) (ls : List CL) : Prop where
  ins : insD S d = some (He.ga K "Circuit", cirNs, [.str a, .lst (ls.map encCL), .lst (natDs (szOf a.length ls)), .lst ((lkOf ls).map Dat.bl), .lst (natDs (cellsOf ls))])
  al : isAlpha a = true
  ok : okCs a.length ls
  pos : 0 < ls.length
  most : ls.length ≤ 4000
/-- lists of numbers, as they may stand -/
abbrev nats (S : Store) (d : Dat) (ns : List Nat) : Prop := seqD S d = some (natDs ns)
def numD : Dat → Nat
  | .int v => v.toNat
  | _ => 0
def numsD (xs : List Dat) : List Nat := xs.map numD
def rowD : Dat → List Nat
  | .tup xs => numsD xs
  | _ => []
def tableB (n : Nat) : Dat → Bool
  | .tup xs => decide (xs.length = n) && xs.all (isNumB 0 999)
  | _ => false
/-- the line that data is, if it can stand behind lines of some sizes -/
noncomputable def lineD (sz : List Nat) : Dat → Option CL
  | .tup [.str z] => if z = "letter" then some .letter else none
  | .tup [.str z, a] => if z = "const" ∧ isNumB 0 999 a = true then some (.const (numD a)) else none
  | .tup [.str z, a, b] => if z = "wire" ∧ isNumB 0 ((sz.length : Int) - 1) a = true ∧ tableB (sz.getD (numD a) 0) b = true then some (.wire (numD a) (rowD b)) else none
  | .tup [.str z, a, b, c] =>
    if z = "join" then
      (match c with
       | .tup rs => if isNumB 0 ((sz.length : Int) - 1) a = true ∧ isNumB 0 ((sz.length : Int) - 1) b = true ∧ rs.length = sz.getD (numD a) 0 ∧ rs.all (tableB (sz.getD (numD b) 0)) = true then some (.join (numD a) (numD b) (rs.map rowD)) else none
       | _ => none)
    else if z = "latch" then
      (if isNumB 0 ((sz.length : Int) - 1) c = true ∧ isNumB 2 999 a = true ∧ sz.getD (numD c) 0 ≤ numD a + 1 ∧ isNumB 0 ((numD a : Int) - 1) b = true then some (.latch (numD a) (numD b) (numD c)) else none)
    else if z = "counter" then
      (if isNumB 0 ((sz.length : Int) - 1) c = true ∧ isNumB 2 97 a = true ∧ primeB (numD a) = true ∧ isNumB 0 ((numD a : Int) - 1) b = true then some (.counter (numD a) (numD b) (numD c)) else none)
    else none
  | _ => none
def okDeep (S : Store) : Nat → Dat → Prop
  | 0, d => okKind S d
  | n + 1, d => okKind S d ∧ ∀ xs, d = .tup xs → xs.length ≤ 1000000 ∧ ∀ x ∈ xs, okDeep S n x
def optN : Option Nat → Dat
  | some n => natD n
  | none => .non
def sp_is_table (K : PySem.W.Frag) : Spec := fun ds S Kt _ => ∃ (d : Dat) (n : Nat), ds = [d, natD n] ∧ okDeep S 1 d ∧ Kt (.bl (tableB n d)) S
/-- the size of a cell, if it can stand -/
noncomputable def cellSz (sz : List Nat) (z : Str) (a b c : Dat) : Option Nat :=
  if isNumB 0 ((sz.length : Int) - 1) c = true ∧ (if z = "latch" then isNumB 2 999 a = true ∧ sz.getD (numD c) 0 ≤ numD a + 1 else isNumB 2 97 a = true ∧ primeB (numD a) = true) ∧ isNumB 0 ((numD a : Int) - 1) b = true then some (numD a) else none
/-- the size by a table behind lines of the sizes ss -/
def tabSz (ss : List Nat) (v : Dat) : Option Nat := match ss, v with
  | [m], v => if tableB m v = true then some (maxN (rowD v) + 1) else none
  | [m, k], .tup rs => if rs.length = m ∧ rs.all (tableB k) = true then some (maxN (rs.map fun r => maxN (rowD r)) + 1) else none
  | _, _ => none
def sp_size_of_cell (K : PySem.W.Frag) : Spec := fun ds S Kt _ => ∃ (z : Str) (a b c sd : Dat) (sz : List Nat), ds = [.tup [.str z, a, b, c], sd] ∧ (z = "latch" ∨ z = "counter") ∧ okKind S a ∧ okKind S b ∧ okKind S c ∧ nats S sd sz ∧ Kt (optN (cellSz sz z a b c)) S
def sp_size_of_table (K : PySem.W.Frag) : Spec := fun ds S Kt _ => ∃ (v : Dat) (ss : List Nat), ds = [v, .lst (natDs ss)] ∧ (ss.length = 1 ∨ ss.length = 2) ∧ (∀ s ∈ ss, 0 < s) ∧ okDeep S 2 v ∧ Kt (optN (tabSz ss v)) S
abbrev okStr1 (d : Dat) : Prop := ∀ z r, d = .tup (.str z :: r) → PyData.strOk z = true
def sp_size_of_line (K : PySem.W.Frag) : Spec := fun ds S Kt _ => ∃ (d sd : Dat) (sz : List Nat) (w : Nat), ds = [d, sd, natD w] ∧ okDeep S 3 d ∧ okStr1 d ∧ nats S sd sz ∧ sz.length ≤ 4000 ∧ (∀ s ∈ sz, 0 < s ∧ s ≤ 1000) ∧ Kt (optN ((lineD sz d).map (sizeCL w))) S
def sp_refs_of (K : PySem.W.Frag) : Spec := fun ds S Kt _ => ∃ l : CL, ds = [encCL l] ∧ Kt (.lst (natDs (refsCL l))) S
def sp_is_cell (K : PySem.W.Frag) : Spec := fun ds S Kt _ => ∃ l : CL, ds = [encCL l] ∧ Kt (.bl (isCell l)) S
def sp_changed (K : PySem.W.Frag) : Spec := fun ds S Kt _ => ∃ (l : CL) (x v : Nat), ds = [encCL l, natD x, natD v] ∧ isCell l = true ∧ 0 < sizeCL 0 l ∧ Kt (natD (changedL l x v)) S
def sp_Circuit_value_of (K : PySem.W.Frag) : Spec := fun ds S Kt _ => ∃ (d vd : Dat) (l : CL) (vals : List Nat) (c : Nat), ds = [d, encCL l, vd, natD c] ∧ isCell l = false ∧ nats S vd vals ∧
  (∀ r t, l = .wire r t → ∃ v, vals[r]? = some v ∧ v < t.length) ∧ (∀ r q t, l = .join r q t → ∃ v u, vals[r]? = some v ∧ vals[q]? = some u ∧ v < t.length ∧ ∀ row ∈ t, u < row.length) ∧ Kt (natD (valueL l vals c)) S
def sp_Circuit_first_sides (K : PySem.W.Frag) : Spec := fun ds S Kt _ => ∃ (d : Dat) (a : Str) (ls : List CL), ds = [d] ∧ isCi K S d a ls ∧ Kt (.tup (natDs (pack ls (firstF ls)))) S
def sp_Circuit_line_values (K : PySem.W.Frag) : Spec := fun ds S Kt _ => ∃ (d sd : Dat) (a : Str) (ls : List CL) (full : List Nat) (c : Nat), ds = [d, sd, natD c] ∧ isCi K S d a ls ∧ nats S sd (pack ls full) ∧ okFull a.length ls full ∧ c < a.length ∧ Kt (.lst (natDs (valsF ls full c))) S
def sp_Circuit_stepped (K : PySem.W.Frag) : Spec := fun ds S Kt _ => ∃ (d sd : Dat) (a : Str) (ls : List CL) (full : List Nat) (c : Nat), ds = [d, sd, natD c] ∧ isCi K S d a ls ∧ nats S sd (pack ls full) ∧ okFull a.length ls full ∧ c < a.length ∧ Kt (.tup (natDs (pack ls (stepF ls full c)))) S
def sp_Circuit_value_with (K : PySem.W.Frag) : Spec := fun ds S Kt _ => ∃ (d sd : Dat) (a : Str) (ls : List CL) (full : List Nat), ds = [d, sd] ∧ isCi K S d a ls ∧ nats S sd (pack ls full) ∧ okFull a.length ls full ∧ Kt (natD (lastF ls full)) S
def sp_Circuit_sides_after (K : PySem.W.Frag) : Spec := fun ds S Kt X => ∃ (d v : Dat) (a : Str) (ls : List CL), ds = [d, v] ∧ isCi K S d a ls ∧
  ((badWord S a v ∧ X (excIW K v) S) ∨ ∃ z : Str, v = .str z ∧ z.length ≤ 1000000 ∧ isWord a z = true ∧ Kt (.cell S.length) (S ++ [.lst (natDs (pack ls (runF a ls (firstF ls) z.cps.toList)))]))
def sp_Circuit_after (K : PySem.W.Frag) : Spec := fun ds S Kt X => ∃ (d v : Dat) (a : Str) (ls : List CL), ds = [d, v] ∧ isCi K S d a ls ∧
  ((badWord S a v ∧ X (excIW K v) S) ∨ ∃ z : Str, v = .str z ∧ z.length ≤ 1000000 ∧ isWord a z = true ∧ Kt (natD (lastF ls (runF a ls (firstF ls) z.cps.toList))) S)
/-- how the making of a circuit ends -/
inductive MkCi (K : PySem.W.Frag) (S : Store) (n : Nat) (Kt : KE) (X : KX) (av d : Dat) : Prop where
  | alpha : badAlpha S av → X (excG K "InvalidAlphabet" "given" av) S → MkCi K S n Kt X av d
  | noseq (z : Str) : av = .str z → z.length ≤ 1000000 → isAlpha z = true → notSeq S d → X (excG K "InvalidLine" "at" (.int 0)) S → MkCi K S n Kt X av d
  | empty (z : Str) : av = .str z → z.length ≤ 1000000 → isAlpha z = true → seqD S d = some [] → X (excG K "InvalidLine" "at" (.int 0)) S → MkCi K S n Kt X av d
  | many (z : Str) (rs : List Dat) : av = .str z → z.length ≤ 1000000 → isAlpha z = true → seqD S d = some rs → 4000 < rs.length → rs.length ≤ 1000000 → X (excTM K "lines" 4000) S → MkCi K S n Kt X av d
  | line (z : Str) (ls : List CL) (r : Dat) (rs : List Dat) : av = .str z → z.length ≤ 1000000 → isAlpha z = true → seqD S d = some (ls.map encCL ++ r :: rs) → ls.length + rs.length < 4000 → okCs z.length ls → okDeep S 3 r → okStr1 r → lineD (szOf z.length ls) r = none → X (excG K "InvalidLine" "at" (natD ls.length)) S → MkCi K S n Kt X av d
  | looks (z : Str) (ls : List CL) : av = .str z → z.length ≤ 1000000 → isAlpha z = true → seqD S d = some (ls.map encCL) → 0 < ls.length → ls.length ≤ 4000 → okCs z.length ls → (lkOf ls).getLast? = some true → X (excG K "InvalidLine" "at" (natD (ls.length - 1))) S → MkCi K S n Kt X av d
  | made (z : Str) (ls : List CL) : av = .str z → z.length ≤ 1000000 → isAlpha z = true → seqD S d = some (ls.map encCL) → 0 < ls.length → ls.length ≤ 4000 → okCs z.length ls → (lkOf ls).getLast? = some false → d ≠ .cell n →
    Kt .non (S.set n (.ins (He.ga K "Circuit") cirNs [.str z, .lst (ls.map encCL), .cell S.length, .cell (S.length + 1), .lst (natDs (cellsOf ls))]) ++ [.lst (natDs (szOf z.length ls)), .lst ((lkOf ls).map Dat.bl)]) → MkCi K S n Kt X av d
def sp_Circuit_init (K : PySem.W.Frag) : Spec := fun ds S Kt X => ∃ (n : Nat) (av d : Dat), ds = [.cell n, av, d] ∧ S[n]? = some (.ins (He.ga K "Circuit") [] []) ∧ MkCi K S n Kt X av d
/-! the laws' own -/
/-- sizes as drawn lines have them -/
def smallSz (sz : List Nat) : Prop := ∀ s ∈ sz, 0 < s ∧ s ≤ 6
def sp_law_line (K : PySem.W.Frag) : Spec := fun ds S Kt _ => ∃ (b : Nat) (d bag : Dat) (sz : List Nat), ds = [.cell b, d] ∧ (∀ bag', IsBag bag' → nats (S.set b bag') d sz) ∧ 0 < sz.length ∧ sz.length ≤ 1000 ∧ smallSz sz ∧ S[b]? = some bag ∧ IsBag bag ∧ ∀ l bag', okCL sz l → l ≠ .letter → sizeCL 0 l ≤ 6 → IsBag bag' → Kt (encCL l) (S.set b bag')
def sp_law_size (K : PySem.W.Frag) : Spec := fun ds S Kt _ => ∃ (l : CL) (d : Dat) (w : Nat) (sz : List Nat), ds = [encCL l, d, natD w] ∧ okCL sz l ∧ (∀ s ∈ sz, s ≤ 1000) ∧ Kt (natD (sizeCL w l)) S
def sp_law_lines (K : PySem.W.Frag) : Spec := fun ds S Kt _ => ∃ (b : Nat) (bag : Dat) (a : Str) (m : Nat), ds = [.cell b, .str a, natD m] ∧ isAlpha a = true ∧ m ≤ 500 ∧ S[b]? = some bag ∧ IsBag bag ∧ ∀ ls bag', okCs a.length ls → ls.length = m + 2 → (lkOf ls).getLast? = some false → smallSz (szOf a.length ls) → (∀ i l, ls[i]? = some l → (l = .letter ↔ i = 0)) → IsBag bag' → Kt (.tup [.lst (ls.map encCL), .lst (natDs (szOf a.length ls))]) (S.set b bag')
def sp_law_values (K : PySem.W.Frag) : Spec := fun ds S Kt _ => ∃ (w : Nat) (ls : List CL) (sd : Dat) (full : List Nat) (c : Nat), ds = [.lst (ls.map encCL), sd, natD c] ∧ nats S sd full ∧ okCs w ls ∧ ls.length ≤ 4000 ∧ okFull w ls full ∧ c < w ∧ Kt (.lst (natDs (valsF ls full c))) S
def sp_law_begin (K : PySem.W.Frag) : Spec := fun ds S Kt _ => ∃ (ls : List CL), ds = [.lst (ls.map encCL)] ∧ ls.length ≤ 4000 ∧ Kt (.tup (natDs (firstF ls))) S
def sp_law_step (K : PySem.W.Frag) : Spec := fun ds S Kt _ => ∃ (w : Nat) (ls : List CL) (full : List Nat) (c : Nat), ds = [.lst (ls.map encCL), .tup (natDs full), natD c] ∧ okCs w ls ∧ ls.length ≤ 4000 ∧ okFull w ls full ∧ c < w ∧ Kt (.tup (natDs (stepF ls full c))) S
def sp_law_run (K : PySem.W.Frag) : Spec := fun ds S Kt _ => ∃ (ls : List CL) (a z : Str), ds = [.lst (ls.map encCL), .str a, .str z] ∧ isAlpha a = true ∧ okCs a.length ls ∧ ls.length ≤ 4000 ∧ isWord a z = true ∧ z.length ≤ 1000000 ∧ Kt (.tup (natDs (runF a ls (firstF ls) z.cps.toList))) S
def sp_law_last (K : PySem.W.Frag) : Spec := fun ds S Kt _ => ∃ (w : Nat) (ls : List CL) (full : List Nat), ds = [.lst (ls.map encCL), .tup (natDs full)] ∧ 0 < w ∧ okCs w ls ∧ 0 < ls.length ∧ ls.length ≤ 4000 ∧ okFull w ls full ∧ Kt (natD (lastF ls full)) S
def sp_law_cells (K : PySem.W.Frag) : Spec := fun ds S Kt _ => ∃ (ls : List CL), ds = [.lst (ls.map encCL)] ∧ ls.length ≤ 4000 ∧ Kt (.lst (natDs (cellsOf ls))) S
theorem len_is_table {K : PySem.W.Frag} {ds S Kt X} (h : sp_is_table K ds S Kt X) : ds.length = 2 := by obtain ⟨_, _, rfl, _⟩ := h; rfl
theorem len_size_of_cell {K : PySem.W.Frag} {ds S Kt X} (h : sp_size_of_cell K ds S Kt X) : ds.length = 2 := by obtain ⟨_, _, _, _, _, _, rfl, _⟩ := h; rfl
theorem len_size_of_table {K : PySem.W.Frag} {ds S Kt X} (h : sp_size_of_table K ds S Kt X) : ds.length = 2 := by obtain ⟨_, _, rfl, _⟩ := h; rfl
theorem len_size_of_line {K : PySem.W.Frag} {ds S Kt X} (h : sp_size_of_line K ds S Kt X) : ds.length = 3 := by obtain ⟨_, _, _, _, rfl, _⟩ := h; rfl
theorem len_refs_of {K : PySem.W.Frag} {ds S Kt X} (h : sp_refs_of K ds S Kt X) : ds.length = 1 := by obtain ⟨_, rfl, _⟩ := h; rfl
theorem len_is_cell {K : PySem.W.Frag} {ds S Kt X} (h : sp_is_cell K ds S Kt X) : ds.length = 1 := by obtain ⟨_, rfl, _⟩ := h; rfl
theorem len_changed {K : PySem.W.Frag} {ds S Kt X} (h : sp_changed K ds S Kt X) : ds.length = 3 := by obtain ⟨_, _, _, rfl, _⟩ := h; rfl
theorem len_Circuit_value_of {K : PySem.W.Frag} {ds S Kt X} (h : sp_Circuit_value_of K ds S Kt X) : ds.length = 4 := by obtain ⟨_, _, _, _, _, rfl, _⟩ := h; rfl
theorem len_Circuit_first_sides {K : PySem.W.Frag} {ds S Kt X} (h : sp_Circuit_first_sides K ds S Kt X) : ds.length = 1 := by obtain ⟨_, _, _, rfl, _⟩ := h; rfl
theorem len_Circuit_line_values {K : PySem.W.Frag} {ds S Kt X} (h : sp_Circuit_line_values K ds S Kt X) : ds.length = 3 := by obtain ⟨_, _, _, _, _, _, rfl, _⟩ := h; rfl
theorem len_Circuit_stepped {K : PySem.W.Frag} {ds S Kt X} (h : sp_Circuit_stepped K ds S Kt X) : ds.length = 3 := by obtain ⟨_, _, _, _, _, _, rfl, _⟩ := h; rfl
theorem len_Circuit_value_with {K : PySem.W.Frag} {ds S Kt X} (h : sp_Circuit_value_with K ds S Kt X) : ds.length = 2 := by obtain ⟨_, _, _, _, _, rfl, _⟩ := h; rfl
theorem len_Circuit_sides_after {K : PySem.W.Frag} {ds S Kt X} (h : sp_Circuit_sides_after K ds S Kt X) : ds.length = 2 := by obtain ⟨_, _, _, _, rfl, _⟩ := h; rfl
theorem len_Circuit_after {K : PySem.W.Frag} {ds S Kt X} (h : sp_Circuit_after K ds S Kt X) : ds.length = 2 := by obtain ⟨_, _, _, _, rfl, _⟩ := h; rfl
theorem len_Circuit_init {K : PySem.W.Frag} {ds S Kt X} (h : sp_Circuit_init K ds S Kt X) : ds.length = 3 := by obtain ⟨_, _, _, rfl, _⟩ := h; rfl
theorem len_law_values {K : PySem.W.Frag} {ds S Kt X} (h : sp_law_values K ds S Kt X) : ds.length = 3 := by obtain ⟨_, _, _, _, _, rfl, _⟩ := h; rfl
theorem len_law_begin {K : PySem.W.Frag} {ds S Kt X} (h : sp_law_begin K ds S Kt X) : ds.length = 1 := by obtain ⟨_, rfl, _⟩ := h; rfl
theorem len_law_step {K : PySem.W.Frag} {ds S Kt X} (h : sp_law_step K ds S Kt X) : ds.length = 3 := by obtain ⟨_, _, _, _, rfl, _⟩ := h; rfl
theorem len_law_run {K : PySem.W.Frag} {ds S Kt X} (h : sp_law_run K ds S Kt X) : ds.length = 3 := by obtain ⟨_, _, _, rfl, _⟩ := h; rfl
def u_is_table (K : PySem.W.Frag) : US :=
  (uRet (uAndV (uCB (gIsi K) (uCons (uVar 0) (uCons (uC (.raw (.ty "tuple"))) uNil))) (uAndV (uOp gEq (uCB gLen (uCons (uVar 0) uNil)) (uVar 1)) (uCB (gBools fun bs => bs.all id) (uCons (uLc (uSeqI (uVar 0)) [2] (uName 2) uYes (uCall (sp_is_number K) [] (uCons (uVar 2) (uCons (uC (.int 0)) (uCons (uC (.int 999)) uNil))))) uNil)))))
def u_size_of_table (K : PySem.W.Frag) : US :=
  (uSeq (uIfS (uTest (uOp gEq (uCB gLen (uCons (uVar 1) uNil)) (uC (.int 1)))) (uRet (uIf (uTru (uCall (sp_is_table K) [] (uCons (uVar 0) (uCons (uOp gIx (uVar 1) (uC (.int 0))) uNil)))) (uOp gAdd (uCB gMaxS (uCons (uVar 0) uNil)) (uC (.int 1))) (uC .non))) uNext)
    (uSeq (uIfS (uOr (uNot (uTru (uCB (gIsi K) (uCons (uVar 0) (uCons (uC (.raw (.ty "tuple"))) uNil))))) (uTest (uOp gNe (uCB gLen (uCons (uVar 0) uNil)) (uOp gIx (uVar 1) (uC (.int 0)))))) (uRet (uC .non)) uNext)
    (uRet (uIf (uTru (uCB (gBools fun bs => bs.all id) (uCons (uLc (uSeqI (uVar 0)) [2] (uName 2) uYes (uCall (sp_is_table K) [] (uCons (uVar 2) (uCons (uOp gIx (uVar 1) (uC (.int 1))) uNil)))) uNil))) (uOp gAdd (uCB gMaxS (uCons (uLc (uSeqI (uVar 0)) [2] (uName 2) uYes (uCB gMaxS (uCons (uVar 2) uNil))) uNil)) (uC (.int 1))) (uC .non)))))
def u_size_of_cell (K : PySem.W.Frag) : US :=
  (uSeq (uAsg (uSl (uVar 0) (uPart (uC (.int 1))) uNo) (uGTup 3 (uGCons (uName 2) (uGCons (uName 3) (uGCons (uName 4) uGNil)))))
    (uSeq (uIfS (uNot (uTru (uCall (sp_is_number K) [] (uCons (uVar 4) (uCons (uC (.int 0)) (uCons (uOp gSub (uCB gLen (uCons (uVar 1) uNil)) (uC (.int 1))) uNil)))))) (uRet (uC .non)) uNext)
    (uSeq (uSet 5 (uCall (sp_is_prime K) [] (uCons (uVar 2) (uCons (uC (.int 97)) uNil))))
    (uSeq (uIfS (uTest (uOp gEq (uOp gIx (uVar 0) (uC (.int 0))) (uC (.str "latch")))) (uSet 5 (uAndV (uCall (sp_is_number K) [] (uCons (uVar 2) (uCons (uC (.int 2)) (uCons (uC (.int 999)) uNil)))) (uOp gLe (uOp gIx (uVar 1) (uVar 4)) (uOp gAdd (uVar 2) (uC (.int 1)))))) uNext)
    (uRet (uIf (uAnd (uTru (uVar 5)) (uTru (uCall (sp_is_number K) [] (uCons (uVar 3) (uCons (uC (.int 0)) (uCons (uOp gSub (uVar 2) (uC (.int 1))) uNil)))))) (uVar 2) (uC .non)))))))
def u_size_of_line (K : PySem.W.Frag) : US :=
  (uSeq (uIfS (uOr (uNot (uTru (uCB (gIsi K) (uCons (uVar 0) (uCons (uC (.raw (.ty "tuple"))) uNil))))) (uOr (uTest (uOp gEq (uCB gLen (uCons (uVar 0) uNil)) (uC (.int 0)))) (uNot (uTru (uCB (gIsi K) (uCons (uOp gIx (uVar 0) (uC (.int 0))) (uCons (uC (.raw (.ty "str"))) uNil))))))) (uRet (uC .non)) uNext)
    (uSeq (uIfS (uAnd (uTest (uOp gEq (uOp gIx (uVar 0) (uC (.int 0))) (uC (.str "const")))) (uTest (uOp gEq (uCB gLen (uCons (uVar 0) uNil)) (uC (.int 2))))) (uRet (uIf (uTru (uCall (sp_is_number K) [] (uCons (uOp gIx (uVar 0) (uC (.int 1))) (uCons (uC (.int 0)) (uCons (uC (.int 999)) uNil))))) (uOp gAdd (uOp gIx (uVar 0) (uC (.int 1))) (uC (.int 1))) (uC .non))) uNext)
    (uSeq (uIfS (uAnd (uTest (uOp gEq (uOp gIx (uVar 0) (uC (.int 0))) (uC (.str "letter")))) (uTest (uOp gEq (uCB gLen (uCons (uVar 0) uNil)) (uC (.int 1))))) (uRet (uVar 2)) uNext)
    (uSeq (uIfS (uAnd (uTest (uOp (gIn id) (uOp gIx (uVar 0) (uC (.int 0))) (uTup (uCons (uC (.str "latch")) (uCons (uC (.str "counter")) uNil))))) (uTest (uOp gEq (uCB gLen (uCons (uVar 0) uNil)) (uC (.int 4))))) (uRet (uCall (sp_size_of_cell K) [] (uCons (uVar 0) (uCons (uVar 1) uNil)))) uNext)
    (uSeq (uIfS (uTest (uOp (gInP id) (uTup (uCons (uOp gIx (uVar 0) (uC (.int 0))) (uCons (uCB gLen (uCons (uVar 0) uNil)) uNil))) (uTup (uCons (uTup (uCons (uC (.str "wire")) (uCons (uC (.int 3)) uNil))) (uCons (uTup (uCons (uC (.str "join")) (uCons (uC (.int 4)) uNil))) uNil))))) (uSeq (uIfS (uNot (uTru (uCB (gBools fun bs => bs.all id) (uCons (uLc (uSeqI (uSl (uVar 0) (uPart (uC (.int 1))) (uPart (uUn gNeg (uC (.int 1)))))) [3] (uName 3) uYes (uCall (sp_is_number K) [] (uCons (uVar 3) (uCons (uC (.int 0)) (uCons (uOp gSub (uCB gLen (uCons (uVar 1) uNil)) (uC (.int 1))) uNil))))) uNil)))) (uRet (uC .non)) uNext)
    (uRet (uCall (sp_size_of_table K) [] (uCons (uOp gIx (uVar 0) (uUn gNeg (uC (.int 1)))) (uCons (uLc (uSeqI (uSl (uVar 0) (uPart (uC (.int 1))) (uPart (uUn gNeg (uC (.int 1)))))) [3] (uName 3) uYes (uOp gIx (uVar 1) (uVar 3))) uNil))))) uNext)
    (uRet (uC .non)))))))
def u_refs_of (K : PySem.W.Frag) : US :=
  (uRet (uDGet2 (uDisp false [((uC (.str "wire")), (uCB gListT (uCons (uSl (uVar 0) (uPart (uC (.int 1))) (uPart (uC (.int 2)))) uNil))), ((uC (.str "join")), (uCB gListT (uCons (uSl (uVar 0) (uPart (uC (.int 1))) (uPart (uC (.int 3)))) uNil))), ((uC (.str "latch")), (uCB gListT (uCons (uSl (uVar 0) (uPart (uC (.int 3))) (uPart (uC (.int 4)))) uNil))), ((uC (.str "counter")), (uCB gListT (uCons (uSl (uVar 0) (uPart (uC (.int 3))) (uPart (uC (.int 4)))) uNil)))]) (uOp gIx (uVar 0) (uC (.int 0))) (uLst uNil)))
def u_is_cell (K : PySem.W.Frag) : US :=
  (uRet (uOp (gIn id) (uOp gIx (uVar 0) (uC (.int 0))) (uTup (uCons (uC (.str "latch")) (uCons (uC (.str "counter")) uNil)))))
def u_changed (K : PySem.W.Frag) : US :=
  (uSeq (uIfS (uTest (uOp gEq (uOp gIx (uVar 0) (uC (.int 0))) (uC (.str "counter")))) (uRet (uOp gMod (uOp gAdd (uVar 1) (uVar 2)) (uOp gIx (uVar 0) (uC (.int 1))))) uNext)
    (uRet (uIf (uTest (uOp gEq (uVar 2) (uC (.int 0)))) (uVar 1) (uOp gSub (uVar 2) (uC (.int 1))))))
def u_Circuit_init (K : PySem.W.Frag) : US :=
  (uSeq (uDrop (uCall (sp_need_alphabet K) [] (uCons (uVar 1) uNil)))
    (uSeq (uIfS (uOr (uNot (uTru (uCB (gIsi K) (uCons (uVar 2) (uCons (uTup (uCons (uC (.raw (.ty "list"))) (uCons (uC (.raw (.ty "tuple"))) uNil))) uNil))))) (uTest (uOp gEq (uCB gLen (uCons (uVar 2) uNil)) (uC (.int 0))))) (uRaise (He.ga K "InvalidLine") [("code", .c "InvalidLine"), ("at", .a 0)] 1 false (uCons (uC (.int 0)) uNil)) uNext)
    (uSeq (uIfS (uTest (uOp gGt (uCB gLen (uCons (uVar 2) uNil)) (uC (.int 4000)))) (uRaise (He.ga K "TooMany") [("code", .c "TooMany"), ("most", .a 1), ("subject", .a 0)] 2 true (uCons (uC (.str "lines")) (uCons (uC (.int 4000)) uNil))) uNext)
    (uSeq (uSet 3 (uLstC uNil))
    (uSeq (uSet 4 (uLstC uNil))
    (uSeq (uFor (uEnK 0 (uCons (uVar 2) uNil)) (uGTup 2 (uGCons (uName 5) (uGCons (uName 6) uGNil))) (uSeq (uSet 7 (uCall (sp_size_of_line K) [] (uCons (uVar 6) (uCons (uVar 3) (uCons (uCB gLen (uCons (uVar 1) uNil)) uNil)))))
    (uSeq (uIfS (uTest (uOp (gIs id) (uVar 7) (uC .non))) (uRaise (He.ga K "InvalidLine") [("code", .c "InvalidLine"), ("at", .a 0)] 1 false (uCons (uVar 5) uNil)) uNext)
    (uSeq (uDrop (uBM "list" gAppend (uVar 3) (uCons (uVar 7) uNil)))
    (uDrop (uBM "list" gAppend (uVar 4) (uCons (uOrV (uOp gEq (uOp gIx (uVar 6) (uC (.int 0))) (uC (.str "letter"))) (uAndV (uNotV (uCall (sp_is_cell K) [] (uCons (uVar 6) uNil))) (uCB (gBools fun bs => bs.any id) (uCons (uLc (uSeqI (uCall (sp_refs_of K) [] (uCons (uVar 6) uNil))) [8] (uName 8) uYes (uOp gIx (uVar 4) (uVar 8))) uNil)))) uNil)))))))
    (uSeq (uIfS (uTru (uOp gIx (uVar 4) (uUn gNeg (uC (.int 1))))) (uRaise (He.ga K "InvalidLine") [("code", .c "InvalidLine"), ("at", .a 0)] 1 false (uCons (uOp gSub (uCB gLen (uCons (uVar 2) uNil)) (uC (.int 1))) uNil)) uNext)
    (uSeq (uSetF [He.ga K "Circuit"] "own_alphabet" (uVar 0) (uVar 1))
    (uSeq (uSetF [He.ga K "Circuit"] "own_lines" (uVar 0) (uCB gListT (uCons (uVar 2) uNil)))
    (uSeq (uSetF [He.ga K "Circuit"] "own_sizes" (uVar 0) (uVar 3))
    (uSeq (uSetF [He.ga K "Circuit"] "looking" (uVar 0) (uVar 4))
    (uSetF [He.ga K "Circuit"] "own_cells" (uVar 0) (uLc (uEnK 0 (uCons (uVar 2) uNil)) [5, 6] (uGTup 2 (uGCons (uName 5) (uGCons (uName 6) uGNil))) (uTru (uCall (sp_is_cell K) [] (uCons (uVar 6) uNil))) (uVar 5))))))))))))))
def u_Circuit_first_sides (K : PySem.W.Frag) : US :=
  (uRet (uCB gTupleC (uCons (uLc (uSeqI (uFld [He.ga K "Circuit"] "own_cells" (uVar 0))) [1] (uName 1) uYes (uOp gIx (uOp gIx (uFld [He.ga K "Circuit"] "own_lines" (uVar 0)) (uVar 1)) (uC (.int 2)))) uNil)))
def u_Circuit_value_of (K : PySem.W.Frag) : US :=
  (uSeq (uIfS (uTest (uOp gEq (uOp gIx (uVar 1) (uC (.int 0))) (uC (.str "const")))) (uRet (uOp gIx (uVar 1) (uC (.int 1)))) uNext)
    (uSeq (uIfS (uTest (uOp gEq (uOp gIx (uVar 1) (uC (.int 0))) (uC (.str "letter")))) (uRet (uVar 3)) uNext)
    (uSeq (uSet 4 (uOp gIx (uVar 1) (uUn gNeg (uC (.int 1)))))
    (uSeq (uFor (uSeqI (uSl (uVar 1) (uPart (uC (.int 1))) (uPart (uUn gNeg (uC (.int 1)))))) (uName 5) (uSet 4 (uOp gIx (uVar 4) (uOp gIx (uVar 2) (uVar 5)))))
    (uRet (uVar 4))))))
def u_Circuit_line_values (K : PySem.W.Frag) : US :=
  (uSeq (uSet 3 (uLstC uNil))
    (uSeq (uSet 4 (uC (.int 0)))
    (uSeq (uFor (uSeqI (uFld [He.ga K "Circuit"] "own_lines" (uVar 0))) (uName 5) (uIfS (uTru (uCall (sp_is_cell K) [] (uCons (uVar 5) uNil))) (uSeq (uDrop (uBM "list" gAppend (uVar 3) (uCons (uOp gIx (uVar 1) (uVar 4)) uNil)))
    (uSet 4 (uOp gAdd (uVar 4) (uC (.int 1))))) (uDrop (uBM "list" gAppend (uVar 3) (uCons (uMeth [(He.ga K "Circuit", sp_Circuit_value_of K)] "value_of" [] (uVar 0) (uCons (uVar 5) (uCons (uVar 3) (uCons (uVar 2) uNil)))) uNil)))))
    (uRet (uVar 3)))))
def u_Circuit_stepped (K : PySem.W.Frag) : US :=
  (uSeq (uSet 3 (uMeth [(He.ga K "Circuit", sp_Circuit_line_values K)] "line_values" [] (uVar 0) (uCons (uVar 1) (uCons (uVar 2) uNil))))
    (uRet (uCB gTupleC (uCons (uLc (uZ (uCons (uFld [He.ga K "Circuit"] "own_cells" (uVar 0)) (uCons (uVar 1) uNil))) [4, 5] (uGTup 2 (uGCons (uName 4) (uGCons (uName 5) uGNil))) uYes (uCall (sp_changed K) [] (uCons (uOp gIx (uFld [He.ga K "Circuit"] "own_lines" (uVar 0)) (uVar 4)) (uCons (uVar 5) (uCons (uOp gIx (uVar 3) (uOp gIx (uOp gIx (uFld [He.ga K "Circuit"] "own_lines" (uVar 0)) (uVar 4)) (uC (.int 3)))) uNil))))) uNil))))
def u_Circuit_value_with (K : PySem.W.Frag) : US :=
  (uRet (uOp gIx (uMeth [(He.ga K "Circuit", sp_Circuit_line_values K)] "line_values" [] (uVar 0) (uCons (uVar 1) (uCons (uC (.int 0)) uNil))) (uUn gNeg (uC (.int 1)))))
def u_Circuit_sides_after (K : PySem.W.Frag) : US :=
  (uSeq (uDrop (uCall (sp_need_word K) [] (uCons (uFld [He.ga K "Circuit"] "own_alphabet" (uVar 0)) (uCons (uVar 1) uNil))))
    (uSeq (uSet 2 (uMeth [(He.ga K "Circuit", sp_Circuit_first_sides K)] "first_sides" [] (uVar 0) uNil))
    (uSeq (uFor (uSeqI (uVar 1)) (uName 3) (uSet 2 (uMeth [(He.ga K "Circuit", sp_Circuit_stepped K)] "stepped" [] (uVar 0) (uCons (uVar 2) (uCons (uBM "str" gSIndex (uFld [He.ga K "Circuit"] "own_alphabet" (uVar 0)) (uCons (uVar 3) uNil)) uNil)))))
    (uRet (uCB gListC (uCons (uVar 2) uNil))))))
def u_Circuit_after (K : PySem.W.Frag) : US :=
  (uRet (uMeth [(He.ga K "Circuit", sp_Circuit_value_with K)] "value_with" [] (uVar 0) (uCons (uMeth [(He.ga K "Circuit", sp_Circuit_sides_after K)] "sides_after" [] (uVar 0) (uCons (uVar 1) uNil)) uNil)))
def u_law_lines (K : PySem.W.Frag) : US :=
  (uSeq (uAsg (uTup (uCons (uLstC (uCons (uTup (uCons (uC (.str "letter")) uNil)) uNil)) (uCons (uLstC (uCons (uCB gLen (uCons (uVar 1) uNil)) uNil)) uNil))) (uGTup 2 (uGCons (uName 3) (uGCons (uName 4) uGNil))))
    (uSeq (uFor (uR1 (uCons (uVar 2) uNil)) (uName 5) (uSeq (uSet 6 (uCall (sp_law_line K) [] (uCons (uVar 0) (uCons (uVar 4) uNil))))
    (uSeq (uDrop (uBM "list" gAppend (uVar 3) (uCons (uVar 6) uNil)))
    (uDrop (uBM "list" gAppend (uVar 4) (uCons (uCall (sp_law_size K) [] (uCons (uVar 6) (uCons (uVar 4) (uCons (uCB gLen (uCons (uVar 1) uNil)) uNil)))) uNil))))))
    (uSeq (uSet 7 (uLc (uR1 (uCons (uCB gLen (uCons (uVar 3) uNil)) uNil)) [9] (uName 9) (uTest (uOp (gIn id) (uOp gIx (uOp gIx (uVar 3) (uVar 9)) (uC (.int 0))) (uTup (uCons (uC (.str "latch")) (uCons (uC (.str "counter")) uNil))))) (uVar 9)))
    (uSeq (uIfS (uTest (uOp gEq (uVar 7) (uLst uNil))) (uDrop (uBM "list" gAppend (uVar 3) (uCons (uTup (uCons (uC (.str "const")) (uCons (uOp gAdd (uC (.int 1)) (uCall (sp_law_pull K) [] (uCons (uVar 0) (uCons (uC (.int 3)) uNil)))) uNil))) uNil))) (uSeq (uSet 8 (uCall (sp_law_of K) [] (uCons (uVar 0) (uCons (uVar 7) uNil))))
    (uDrop (uBM "list" gAppend (uVar 3) (uCons (uTup (uCons (uC (.str "wire")) (uCons (uVar 8) (uCons (uCB gTupleC (uCons (uLc (uR1 (uCons (uOp gIx (uVar 4) (uVar 8)) uNil)) [5] (uName 5) uYes (uCall (sp_law_pull K) [] (uCons (uVar 0) (uCons (uC (.int 4)) uNil)))) uNil)) uNil)))) uNil)))))
    (uSeq (uDrop (uBM "list" gAppend (uVar 4) (uCons (uCall (sp_law_size K) [] (uCons (uOp gIx (uVar 3) (uUn gNeg (uC (.int 1)))) (uCons (uVar 4) (uCons (uCB gLen (uCons (uVar 1) uNil)) uNil)))) uNil)))
    (uRet (uTup (uCons (uVar 3) (uCons (uVar 4) uNil)))))))))
def u_law_line (K : PySem.W.Frag) : US :=
  (uSeq (uPar 2 3 (uCons (uCB gLen (uCons (uVar 1) uNil)) (uCons (uCall (sp_law_pull K) [] (uCons (uVar 0) (uCons (uC (.int 8)) uNil))) uNil)))
    (uSeq (uAsg (uTup (uCons (uCall (sp_law_pull K) [] (uCons (uVar 0) (uCons (uVar 2) uNil))) (uCons (uOp gSub (uOp gSub (uVar 2) (uC (.int 1))) (uCall (sp_law_of K) [] (uCons (uVar 0) (uCons (uLst (uCons (uC (.int 0)) (uCons (uC (.int 0)) (uCons (uCall (sp_law_pull K) [] (uCons (uVar 0) (uCons (uVar 2) uNil))) uNil)))) uNil)))) uNil))) (uGTup 2 (uGCons (uName 4) (uGCons (uName 5) uGNil))))
    (uSeq (uIfS (uTest (uOp gEq (uVar 3) (uC (.int 0)))) (uRet (uTup (uCons (uC (.str "const")) (uCons (uCall (sp_law_of K) [] (uCons (uVar 0) (uCons (uLst (uCons (uC (.int 0)) (uCons (uC (.int 1)) (uCons (uC (.int 2)) (uCons (uCall (sp_law_pull K) [] (uCons (uVar 0) (uCons (uC (.int 6)) uNil))) uNil))))) uNil))) uNil)))) uNext)
    (uSeq (uIfS (uTest (uOp gEq (uVar 3) (uC (.int 1)))) (uRet (uTup (uCons (uC (.str "wire")) (uCons (uVar 5) (uCons (uCB gTupleC (uCons (uLc (uR1 (uCons (uOp gIx (uVar 1) (uVar 5)) uNil)) [8] (uName 8) uYes (uCall (sp_law_pull K) [] (uCons (uVar 0) (uCons (uC (.int 4)) uNil)))) uNil)) uNil))))) uNext)
    (uSeq (uIfS (uAnd (uTest (uOp gLt (uVar 3) (uC (.int 4)))) (uTest (uOp gLe (uOp gMul (uOp gIx (uVar 1) (uVar 4)) (uOp gIx (uVar 1) (uVar 5))) (uC (.int 64))))) (uRet (uTup (uCons (uC (.str "join")) (uCons (uVar 4) (uCons (uVar 5) (uCons (uCB gTupleC (uCons (uLc (uR1 (uCons (uOp gIx (uVar 1) (uVar 4)) uNil)) [9] (uName 9) uYes (uCB gTupleC (uCons (uLc (uR1 (uCons (uOp gIx (uVar 1) (uVar 5)) uNil)) [8] (uName 8) uYes (uCall (sp_law_pull K) [] (uCons (uVar 0) (uCons (uC (.int 4)) uNil)))) uNil))) uNil)) uNil)))))) uNext)
    (uSeq (uIfS (uTest (uOp gLt (uVar 3) (uC (.int 6)))) (uSeq (uSet 6 (uCall (sp_law_of K) [] (uCons (uVar 0) (uCons (uLst (uCons (uC (.int 2)) (uCons (uC (.int 2)) (uCons (uC (.int 3)) (uCons (uC (.int 4)) uNil))))) uNil))))
    (uSeq (uSet 6 (uCB gMax2 (uCons (uVar 6) (uCons (uOp gSub (uOp gIx (uVar 1) (uVar 5)) (uC (.int 1))) uNil))))
    (uRet (uTup (uCons (uC (.str "latch")) (uCons (uVar 6) (uCons (uCall (sp_law_pull K) [] (uCons (uVar 0) (uCons (uVar 6) uNil))) (uCons (uVar 5) uNil)))))))) uNext)
    (uSeq (uSet 7 (uCall (sp_law_of K) [] (uCons (uVar 0) (uCons (uLst (uCons (uC (.int 2)) (uCons (uC (.int 2)) (uCons (uC (.int 3)) (uCons (uC (.int 5)) uNil))))) uNil))))
    (uRet (uTup (uCons (uC (.str "counter")) (uCons (uVar 7) (uCons (uCall (sp_law_pull K) [] (uCons (uVar 0) (uCons (uVar 7) uNil))) (uCons (uVar 5) uNil)))))))))))))
def u_law_size (K : PySem.W.Frag) : US :=
  (uSeq (uIfS (uTest (uOp gEq (uOp gIx (uVar 0) (uC (.int 0))) (uC (.str "const")))) (uRet (uOp gAdd (uOp gIx (uVar 0) (uC (.int 1))) (uC (.int 1)))) uNext)
    (uSeq (uIfS (uTest (uOp gEq (uOp gIx (uVar 0) (uC (.int 0))) (uC (.str "letter")))) (uRet (uVar 2)) uNext)
    (uSeq (uIfS (uTest (uOp (gIn id) (uOp gIx (uVar 0) (uC (.int 0))) (uTup (uCons (uC (.str "latch")) (uCons (uC (.str "counter")) uNil))))) (uRet (uOp gIx (uVar 0) (uC (.int 1)))) uNext)
    (uSeq (uIfS (uTest (uOp gEq (uOp gIx (uVar 0) (uC (.int 0))) (uC (.str "wire")))) (uRet (uOp gAdd (uCB gMaxS (uCons (uOp gIx (uVar 0) (uC (.int 2))) uNil)) (uC (.int 1)))) uNext)
    (uRet (uOp gAdd (uCB gMaxS (uCons (uLc (uSeqI (uOp gIx (uVar 0) (uC (.int 3)))) [3] (uName 3) uYes (uCB gMaxS (uCons (uVar 3) uNil))) uNil)) (uC (.int 1))))))))
def u_law_values (K : PySem.W.Frag) : US :=
  (uSeq (uSet 3 (uLstC uNil))
    (uSeq (uFor (uR1 (uCons (uCB gLen (uCons (uVar 0) uNil)) uNil)) (uName 4) (uSeq (uSet 5 (uOp gIx (uVar 0) (uVar 4)))
    (uIfS (uTest (uOp gEq (uOp gIx (uVar 5) (uC (.int 0))) (uC (.str "const")))) (uDrop (uBM "list" gAppend (uVar 3) (uCons (uOp gIx (uVar 5) (uC (.int 1))) uNil))) (uIfS (uTest (uOp gEq (uOp gIx (uVar 5) (uC (.int 0))) (uC (.str "letter")))) (uDrop (uBM "list" gAppend (uVar 3) (uCons (uVar 2) uNil))) (uIfS (uTest (uOp gEq (uOp gIx (uVar 5) (uC (.int 0))) (uC (.str "wire")))) (uDrop (uBM "list" gAppend (uVar 3) (uCons (uOp gIx (uOp gIx (uVar 5) (uC (.int 2))) (uOp gIx (uVar 3) (uOp gIx (uVar 5) (uC (.int 1))))) uNil))) (uIfS (uTest (uOp gEq (uOp gIx (uVar 5) (uC (.int 0))) (uC (.str "join")))) (uDrop (uBM "list" gAppend (uVar 3) (uCons (uOp gIx (uOp gIx (uOp gIx (uVar 5) (uC (.int 3))) (uOp gIx (uVar 3) (uOp gIx (uVar 5) (uC (.int 1))))) (uOp gIx (uVar 3) (uOp gIx (uVar 5) (uC (.int 2))))) uNil))) (uDrop (uBM "list" gAppend (uVar 3) (uCons (uOp gIx (uVar 1) (uVar 4)) uNil)))))))))
    (uRet (uVar 3))))
def u_law_begin (K : PySem.W.Frag) : US :=
  (uRet (uCB gTupleC (uCons (uLc (uSeqI (uVar 0)) [1] (uName 1) uYes (uIf (uTest (uOp (gIn id) (uOp gIx (uVar 1) (uC (.int 0))) (uTup (uCons (uC (.str "latch")) (uCons (uC (.str "counter")) uNil))))) (uOp gIx (uVar 1) (uC (.int 2))) (uC (.int 0)))) uNil)))
def u_law_step (K : PySem.W.Frag) : US :=
  (uSeq (uPar 3 4 (uCons (uCall (sp_law_values K) [] (uCons (uVar 0) (uCons (uVar 1) (uCons (uVar 2) uNil)))) (uCons (uCB gListC (uCons (uVar 1) uNil)) uNil)))
    (uSeq (uFor (uR1 (uCons (uCB gLen (uCons (uVar 0) uNil)) uNil)) (uName 5) (uSeq (uSet 6 (uOp gIx (uVar 0) (uVar 5)))
    (uSeq (uIfS (uAnd (uTest (uOp gEq (uOp gIx (uVar 6) (uC (.int 0))) (uC (.str "latch")))) (uTest (uOp gGt (uOp gIx (uVar 3) (uOp gIx (uVar 6) (uC (.int 3)))) (uC (.int 0))))) (uAsg (uOp gSub (uOp gIx (uVar 3) (uOp gIx (uVar 6) (uC (.int 3)))) (uC (.int 1))) (uGSub (uVar 4) (uVar 5) gSetL)) uNext)
    (uIfS (uTest (uOp gEq (uOp gIx (uVar 6) (uC (.int 0))) (uC (.str "counter")))) (uAsg (uOp gMod (uCB gInt1 (uCons (uOp gAdd (uOp gIx (uVar 1) (uVar 5)) (uOp gIx (uVar 3) (uOp gIx (uVar 6) (uC (.int 3))))) uNil)) (uOp gIx (uVar 6) (uC (.int 1)))) (uGSub (uVar 4) (uVar 5) gSetL)) uNext))))
    (uRet (uCB gTupleC (uCons (uVar 4) uNil)))))
def u_law_run (K : PySem.W.Frag) : US :=
  (uSeq (uSet 3 (uCall (sp_law_begin K) [] (uCons (uVar 0) uNil)))
    (uSeq (uFor (uSeqI (uVar 2)) (uName 4) (uSet 3 (uCall (sp_law_step K) [] (uCons (uVar 0) (uCons (uVar 3) (uCons (uBM "str" gSIndex (uVar 1) (uCons (uVar 4) uNil)) uNil))))))
    (uRet (uVar 3))))
def u_law_last (K : PySem.W.Frag) : US :=
  (uRet (uOp gIx (uCall (sp_law_values K) [] (uCons (uVar 0) (uCons (uVar 1) (uCons (uC (.int 0)) uNil)))) (uUn gNeg (uC (.int 1)))))
def u_law_cells (K : PySem.W.Frag) : US :=
  (uRet (uLc (uR1 (uCons (uCB gLen (uCons (uVar 0) uNil)) uNil)) [1] (uName 1) (uTest (uOp (gIn id) (uOp gIx (uOp gIx (uVar 0) (uVar 1)) (uC (.int 0))) (uTup (uCons (uC (.str "latch")) (uCons (uC (.str "counter")) uNil))))) (uVar 1)))
end DL
/-! OC: a promise opened at the head of what is to be shown. -/
namespace DL
open PySem L2
theorem o_is_table {K : PySem.W.Frag} {ds : List Dat} {S : Store} {Kt : KE} {Xo : KX} (h : ∃ (d : Dat) (n : Nat), ds = [d, natD n] ∧ okDeep S 1 d ∧ (goK Kt) (.bl (tableB n d)) S) : sp_is_table K ds S Kt Xo := h
theorem o_size_of_cell {K : PySem.W.Frag} {ds : List Dat} {S : Store} {Kt : KE} {Xo : KX} (h : ∃ (z : Str) (a b c sd : Dat) (sz : List Nat), ds = [.tup [.str z, a, b, c], sd] ∧ (z = "latch" ∨ z = "counter") ∧ okKind S a ∧ okKind S b ∧ okKind S c ∧ nats S sd sz ∧ (goK Kt) (optN (cellSz sz z a b c)) S) : sp_size_of_cell K ds S Kt Xo := h
theorem o_size_of_table {K : PySem.W.Frag} {ds : List Dat} {S : Store} {Kt : KE} {Xo : KX} (h : ∃ (v : Dat) (ss : List Nat), ds = [v, .lst (natDs ss)] ∧ (ss.length = 1 ∨ ss.length = 2) ∧ (∀ s ∈ ss, 0 < s) ∧ okDeep S 2 v ∧ (goK Kt) (optN (tabSz ss v)) S) : sp_size_of_table K ds S Kt Xo := h
theorem o_size_of_line {K : PySem.W.Frag} {ds : List Dat} {S : Store} {Kt : KE} {Xo : KX} (h : ∃ (d sd : Dat) (sz : List Nat) (w : Nat), ds = [d, sd, natD w] ∧ okDeep S 3 d ∧ okStr1 d ∧ nats S sd sz ∧ sz.length ≤ 4000 ∧ (∀ s ∈ sz, 0 < s ∧ s ≤ 1000) ∧ (goK Kt) (optN ((lineD sz d).map (sizeCL w))) S) : sp_size_of_line K ds S Kt Xo := h
theorem o_refs_of {K : PySem.W.Frag} {ds : List Dat} {S : Store} {Kt : KE} {Xo : KX} (h : ∃ l : CL, ds = [encCL l] ∧ (goK Kt) (.lst (natDs (refsCL l))) S) : sp_refs_of K ds S Kt Xo := h
theorem o_is_cell {K : PySem.W.Frag} {ds : List Dat} {S : Store} {Kt : KE} {Xo : KX} (h : ∃ l : CL, ds = [encCL l] ∧ (goK Kt) (.bl (isCell l)) S) : sp_is_cell K ds S Kt Xo := h
theorem o_changed {K : PySem.W.Frag} {ds : List Dat} {S : Store} {Kt : KE} {Xo : KX} (h : ∃ (l : CL) (x v : Nat), ds = [encCL l, natD x, natD v] ∧ isCell l = true ∧ 0 < sizeCL 0 l ∧ (goK Kt) (natD (changedL l x v)) S) : sp_changed K ds S Kt Xo := h
theorem o_Circuit_value_of {K : PySem.W.Frag} {ds : List Dat} {S : Store} {Kt : KE} {Xo : KX} (h : ∃ (d vd : Dat) (l : CL) (vals : List Nat) (c : Nat), ds = [d, encCL l, vd, natD c] ∧ isCell l = false ∧ nats S vd vals ∧ (∀ r t, l = .wire r t → ∃ v, vals[r]? = some v ∧ v < t.length) ∧ (∀ r q t, l = .join r q t → ∃ v u, vals[r]? = some v ∧ vals[q]? = some u ∧ v < t.length ∧ ∀ row ∈ t, u < row.length) ∧ (goK Kt) (natD (valueL l vals c)) S) : sp_Circuit_value_of K ds S Kt Xo := h
theorem o_Circuit_first_sides {K : PySem.W.Frag} {ds : List Dat} {S : Store} {Kt : KE} {Xo : KX} (h : ∃ (d : Dat) (a : Str) (ls : List CL), ds = [d] ∧ isCi K S d a ls ∧ (goK Kt) (.tup (natDs (pack ls (firstF ls)))) S) : sp_Circuit_first_sides K ds S Kt Xo := h
theorem o_Circuit_line_values {K : PySem.W.Frag} {ds : List Dat} {S : Store} {Kt : KE} {Xo : KX} (h : ∃ (d sd : Dat) (a : Str) (ls : List CL) (full : List Nat) (c : Nat), ds = [d, sd, natD c] ∧ isCi K S d a ls ∧ nats S sd (pack ls full) ∧ okFull a.length ls full ∧ c < a.length ∧ (goK Kt) (.lst (natDs (valsF ls full c))) S) : sp_Circuit_line_values K ds S Kt Xo := h
theorem o_Circuit_stepped {K : PySem.W.Frag} {ds : List Dat} {S : Store} {Kt : KE} {Xo : KX} (h : ∃ (d sd : Dat) (a : Str) (ls : List CL) (full : List Nat) (c : Nat), ds = [d, sd, natD c] ∧ isCi K S d a ls ∧ nats S sd (pack ls full) ∧ okFull a.length ls full ∧ c < a.length ∧ (goK Kt) (.tup (natDs (pack ls (stepF ls full c)))) S) : sp_Circuit_stepped K ds S Kt Xo := h
theorem o_Circuit_value_with {K : PySem.W.Frag} {ds : List Dat} {S : Store} {Kt : KE} {Xo : KX} (h : ∃ (d sd : Dat) (a : Str) (ls : List CL) (full : List Nat), ds = [d, sd] ∧ isCi K S d a ls ∧ nats S sd (pack ls full) ∧ okFull a.length ls full ∧ (goK Kt) (natD (lastF ls full)) S) : sp_Circuit_value_with K ds S Kt Xo := h
theorem o_Circuit_sides_after {K : PySem.W.Frag} {ds : List Dat} {S : Store} {Kt : KE} {X : KX} (h : ∃ (d v : Dat) (a : Str) (ls : List CL), ds = [d, v] ∧ isCi K S d a ls ∧ ((badWord S a v ∧ X (excIW K v) S) ∨ ∃ z : Str, v = .str z ∧ z.length ≤ 1000000 ∧ isWord a z = true ∧ (goK Kt) (.cell S.length) (S ++ [.lst (natDs (pack ls (runF a ls (firstF ls) z.cps.toList)))]))) : sp_Circuit_sides_after K ds S Kt X := h
theorem o_Circuit_after {K : PySem.W.Frag} {ds : List Dat} {S : Store} {Kt : KE} {X : KX} (h : ∃ (d v : Dat) (a : Str) (ls : List CL), ds = [d, v] ∧ isCi K S d a ls ∧ ((badWord S a v ∧ X (excIW K v) S) ∨ ∃ z : Str, v = .str z ∧ z.length ≤ 1000000 ∧ isWord a z = true ∧ (goK Kt) (natD (lastF ls (runF a ls (firstF ls) z.cps.toList))) S)) : sp_Circuit_after K ds S Kt X := h
theorem o_law_line {K : PySem.W.Frag} {ds : List Dat} {S : Store} {Kt : KE} {Xo : KX} (h : ∃ (b : Nat) (d bag : Dat) (sz : List Nat), ds = [.cell b, d] ∧ (∀ bag', IsBag bag' → nats (S.set b bag') d sz) ∧ 0 < sz.length ∧ sz.length ≤ 1000 ∧ smallSz sz ∧ S[b]? = some bag ∧ IsBag bag ∧ ∀ l bag', okCL sz l → l ≠ .letter → sizeCL 0 l ≤ 6 → IsBag bag' → (goK Kt) (encCL l) (S.set b bag')) : sp_law_line K ds S Kt Xo := h
theorem o_law_size {K : PySem.W.Frag} {ds : List Dat} {S : Store} {Kt : KE} {Xo : KX} (h : ∃ (l : CL) (d : Dat) (w : Nat) (sz : List Nat), ds = [encCL l, d, natD w] ∧ okCL sz l ∧ (∀ s ∈ sz, s ≤ 1000) ∧ (goK Kt) (natD (sizeCL w l)) S) : sp_law_size K ds S Kt Xo := h
theorem o_law_lines {K : PySem.W.Frag} {ds : List Dat} {S : Store} {Kt : KE} {Xo : KX} (h : ∃ (b : Nat) (bag : Dat) (a : Str) (m : Nat), ds = [.cell b, .str a, natD m] ∧ isAlpha a = true ∧ m ≤ 500 ∧ S[b]? = some bag ∧ IsBag bag ∧ ∀ ls bag', okCs a.length ls → ls.length = m + 2 → (lkOf ls).getLast? = some false → smallSz (szOf a.length ls) → (∀ i l, ls[i]? = some l → (l = .letter ↔ i = 0)) → IsBag bag' → (goK Kt) (.tup [.lst (ls.map encCL), .lst (natDs (szOf a.length ls))]) (S.set b bag')) : sp_law_lines K ds S Kt Xo := h
theorem o_law_values {K : PySem.W.Frag} {ds : List Dat} {S : Store} {Kt : KE} {Xo : KX} (h : ∃ (w : Nat) (ls : List CL) (sd : Dat) (full : List Nat) (c : Nat), ds = [.lst (ls.map encCL), sd, natD c] ∧ nats S sd full ∧ okCs w ls ∧ ls.length ≤ 4000 ∧ okFull w ls full ∧ c < w ∧ (goK Kt) (.lst (natDs (valsF ls full c))) S) : sp_law_values K ds S Kt Xo := h
theorem o_law_begin {K : PySem.W.Frag} {ds : List Dat} {S : Store} {Kt : KE} {Xo : KX} (h : ∃ (ls : List CL), ds = [.lst (ls.map encCL)] ∧ ls.length ≤ 4000 ∧ (goK Kt) (.tup (natDs (firstF ls))) S) : sp_law_begin K ds S Kt Xo := h
theorem o_law_step {K : PySem.W.Frag} {ds : List Dat} {S : Store} {Kt : KE} {Xo : KX} (h : ∃ (w : Nat) (ls : List CL) (full : List Nat) (c : Nat), ds = [.lst (ls.map encCL), .tup (natDs full), natD c] ∧ okCs w ls ∧ ls.length ≤ 4000 ∧ okFull w ls full ∧ c < w ∧ (goK Kt) (.tup (natDs (stepF ls full c))) S) : sp_law_step K ds S Kt Xo := h
theorem o_law_run {K : PySem.W.Frag} {ds : List Dat} {S : Store} {Kt : KE} {Xo : KX} (h : ∃ (ls : List CL) (a z : Str), ds = [.lst (ls.map encCL), .str a, .str z] ∧ isAlpha a = true ∧ okCs a.length ls ∧ ls.length ≤ 4000 ∧ isWord a z = true ∧ z.length ≤ 1000000 ∧ (goK Kt) (.tup (natDs (runF a ls (firstF ls) z.cps.toList))) S) : sp_law_run K ds S Kt Xo := h
theorem o_law_last {K : PySem.W.Frag} {ds : List Dat} {S : Store} {Kt : KE} {Xo : KX} (h : ∃ (w : Nat) (ls : List CL) (full : List Nat), ds = [.lst (ls.map encCL), .tup (natDs full)] ∧ 0 < w ∧ okCs w ls ∧ 0 < ls.length ∧ ls.length ≤ 4000 ∧ okFull w ls full ∧ (goK Kt) (natD (lastF ls full)) S) : sp_law_last K ds S Kt Xo := h
theorem o_law_cells {K : PySem.W.Frag} {ds : List Dat} {S : Store} {Kt : KE} {Xo : KX} (h : ∃ (ls : List CL), ds = [.lst (ls.map encCL)] ∧ ls.length ≤ 4000 ∧ (goK Kt) (.lst (natDs (cellsOf ls))) S) : sp_law_cells K ds S Kt Xo := h
end DL
/-! WS2: the rules of a reading as instances. -/
namespace DL
open PySem L2
instance {K : PySem.W.Frag} {ds : List Dat} {S : Store} {Kt : KE} {Xo : KX} : Open (sp_is_table K ds S Kt Xo) (∃ (d : Dat) (n : Nat), ds = [d, natD n] ∧ okDeep S 1 d ∧ (goK Kt) (.bl (tableB n d)) S) := ⟨fun h => o_is_table h⟩
instance {K : PySem.W.Frag} {ds : List Dat} {S : Store} {Kt : KE} {Xo : KX} : Open (sp_size_of_cell K ds S Kt Xo) (∃ (z : Str) (a b c sd : Dat) (sz : List Nat), ds = [.tup [.str z, a, b, c], sd] ∧ (z = "latch" ∨ z = "counter") ∧ okKind S a ∧ okKind S b ∧ okKind S c ∧ nats S sd sz ∧ (goK Kt) (optN (cellSz sz z a b c)) S) := ⟨fun h => o_size_of_cell h⟩
instance {K : PySem.W.Frag} {ds : List Dat} {S : Store} {Kt : KE} {Xo : KX} : Open (sp_size_of_table K ds S Kt Xo) (∃ (v : Dat) (ss : List Nat), ds = [v, .lst (natDs ss)] ∧ (ss.length = 1 ∨ ss.length = 2) ∧ (∀ s ∈ ss, 0 < s) ∧ okDeep S 2 v ∧ (goK Kt) (optN (tabSz ss v)) S) := ⟨fun h => o_size_of_table h⟩
instance {K : PySem.W.Frag} {ds : List Dat} {S : Store} {Kt : KE} {Xo : KX} : Open (sp_size_of_line K ds S Kt Xo) (∃ (d sd : Dat) (sz : List Nat) (w : Nat), ds = [d, sd, natD w] ∧ okDeep S 3 d ∧ okStr1 d ∧ nats S sd sz ∧ sz.length ≤ 4000 ∧ (∀ s ∈ sz, 0 < s ∧ s ≤ 1000) ∧ (goK Kt) (optN ((lineD sz d).map (sizeCL w))) S) := ⟨fun h => o_size_of_line h⟩
instance {K : PySem.W.Frag} {ds : List Dat} {S : Store} {Kt : KE} {Xo : KX} : Open (sp_refs_of K ds S Kt Xo) (∃ l : CL, ds = [encCL l] ∧ (goK Kt) (.lst (natDs (refsCL l))) S) := ⟨fun h => o_refs_of h⟩
instance {K : PySem.W.Frag} {ds : List Dat} {S : Store} {Kt : KE} {Xo : KX} : Open (sp_is_cell K ds S Kt Xo) (∃ l : CL, ds = [encCL l] ∧ (goK Kt) (.bl (isCell l)) S) := ⟨fun h => o_is_cell h⟩
instance {K : PySem.W.Frag} {ds : List Dat} {S : Store} {Kt : KE} {Xo : KX} : Open (sp_changed K ds S Kt Xo) (∃ (l : CL) (x v : Nat), ds = [encCL l, natD x, natD v] ∧ isCell l = true ∧ 0 < sizeCL 0 l ∧ (goK Kt) (natD (changedL l x v)) S) := ⟨fun h => o_changed h⟩
instance {K : PySem.W.Frag} {ds : List Dat} {S : Store} {Kt : KE} {Xo : KX} : Open (sp_Circuit_value_of K ds S Kt Xo) (∃ (d vd : Dat) (l : CL) (vals : List Nat) (c : Nat), ds = [d, encCL l, vd, natD c] ∧ isCell l = false ∧ nats S vd vals ∧ (∀ r t, l = .wire r t → ∃ v, vals[r]? = some v ∧ v < t.length) ∧ (∀ r q t, l = .join r q t → ∃ v u, vals[r]? = some v ∧ vals[q]? = some u ∧ v < t.length ∧ ∀ row ∈ t, u < row.length) ∧ (goK Kt) (natD (valueL l vals c)) S) := ⟨fun h => o_Circuit_value_of h⟩
instance {K : PySem.W.Frag} {ds : List Dat} {S : Store} {Kt : KE} {Xo : KX} : Open (sp_Circuit_first_sides K ds S Kt Xo) (∃ (d : Dat) (a : Str) (ls : List CL), ds = [d] ∧ isCi K S d a ls ∧ (goK Kt) (.tup (natDs (pack ls (firstF ls)))) S) := ⟨fun h => o_Circuit_first_sides h⟩
instance {K : PySem.W.Frag} {ds : List Dat} {S : Store} {Kt : KE} {Xo : KX} : Open (sp_Circuit_line_values K ds S Kt Xo) (∃ (d sd : Dat) (a : Str) (ls : List CL) (full : List Nat) (c : Nat), ds = [d, sd, natD c] ∧ isCi K S d a ls ∧ nats S sd (pack ls full) ∧ okFull a.length ls full ∧ c < a.length ∧ (goK Kt) (.lst (natDs (valsF ls full c))) S) := ⟨fun h => o_Circuit_line_values h⟩
instance {K : PySem.W.Frag} {ds : List Dat} {S : Store} {Kt : KE} {Xo : KX} : Open (sp_Circuit_stepped K ds S Kt Xo) (∃ (d sd : Dat) (a : Str) (ls : List CL) (full : List Nat) (c : Nat), ds = [d, sd, natD c] ∧ isCi K S d a ls ∧ nats S sd (pack ls full) ∧ okFull a.length ls full ∧ c < a.length ∧ (goK Kt) (.tup (natDs (pack ls (stepF ls full c)))) S) := ⟨fun h => o_Circuit_stepped h⟩
instance {K : PySem.W.Frag} {ds : List Dat} {S : Store} {Kt : KE} {Xo : KX} : Open (sp_Circuit_value_with K ds S Kt Xo) (∃ (d sd : Dat) (a : Str) (ls : List CL) (full : List Nat), ds = [d, sd] ∧ isCi K S d a ls ∧ nats S sd (pack ls full) ∧ okFull a.length ls full ∧ (goK Kt) (natD (lastF ls full)) S) := ⟨fun h => o_Circuit_value_with h⟩
instance {K : PySem.W.Frag} {ds : List Dat} {S : Store} {Kt : KE} {X : KX} : Open (sp_Circuit_sides_after K ds S Kt X) (∃ (d v : Dat) (a : Str) (ls : List CL), ds = [d, v] ∧ isCi K S d a ls ∧ ((badWord S a v ∧ X (excIW K v) S) ∨ ∃ z : Str, v = .str z ∧ z.length ≤ 1000000 ∧ isWord a z = true ∧ (goK Kt) (.cell S.length) (S ++ [.lst (natDs (pack ls (runF a ls (firstF ls) z.cps.toList)))]))) := ⟨fun h => o_Circuit_sides_after h⟩
instance {K : PySem.W.Frag} {ds : List Dat} {S : Store} {Kt : KE} {X : KX} : Open (sp_Circuit_after K ds S Kt X) (∃ (d v : Dat) (a : Str) (ls : List CL), ds = [d, v] ∧ isCi K S d a ls ∧ ((badWord S a v ∧ X (excIW K v) S) ∨ ∃ z : Str, v = .str z ∧ z.length ≤ 1000000 ∧ isWord a z = true ∧ (goK Kt) (natD (lastF ls (runF a ls (firstF ls) z.cps.toList))) S)) := ⟨fun h => o_Circuit_after h⟩
instance {K : PySem.W.Frag} {ds : List Dat} {S : Store} {Kt : KE} {Xo : KX} : Open (sp_law_line K ds S Kt Xo) (∃ (b : Nat) (d bag : Dat) (sz : List Nat), ds = [.cell b, d] ∧ (∀ bag', IsBag bag' → nats (S.set b bag') d sz) ∧ 0 < sz.length ∧ sz.length ≤ 1000 ∧ smallSz sz ∧ S[b]? = some bag ∧ IsBag bag ∧ ∀ l bag', okCL sz l → l ≠ .letter → sizeCL 0 l ≤ 6 → IsBag bag' → (goK Kt) (encCL l) (S.set b bag')) := ⟨fun h => o_law_line h⟩
instance {K : PySem.W.Frag} {ds : List Dat} {S : Store} {Kt : KE} {Xo : KX} : Open (sp_law_size K ds S Kt Xo) (∃ (l : CL) (d : Dat) (w : Nat) (sz : List Nat), ds = [encCL l, d, natD w] ∧ okCL sz l ∧ (∀ s ∈ sz, s ≤ 1000) ∧ (goK Kt) (natD (sizeCL w l)) S) := ⟨fun h => o_law_size h⟩
instance {K : PySem.W.Frag} {ds : List Dat} {S : Store} {Kt : KE} {Xo : KX} : Open (sp_law_lines K ds S Kt Xo) (∃ (b : Nat) (bag : Dat) (a : Str) (m : Nat), ds = [.cell b, .str a, natD m] ∧ isAlpha a = true ∧ m ≤ 500 ∧ S[b]? = some bag ∧ IsBag bag ∧ ∀ ls bag', okCs a.length ls → ls.length = m + 2 → (lkOf ls).getLast? = some false → smallSz (szOf a.length ls) → (∀ i l, ls[i]? = some l → (l = .letter ↔ i = 0)) → IsBag bag' → (goK Kt) (.tup [.lst (ls.map encCL), .lst (natDs (szOf a.length ls))]) (S.set b bag')) := ⟨fun h => o_law_lines h⟩
instance {K : PySem.W.Frag} {ds : List Dat} {S : Store} {Kt : KE} {Xo : KX} : Open (sp_law_values K ds S Kt Xo) (∃ (w : Nat) (ls : List CL) (sd : Dat) (full : List Nat) (c : Nat), ds = [.lst (ls.map encCL), sd, natD c] ∧ nats S sd full ∧ okCs w ls ∧ ls.length ≤ 4000 ∧ okFull w ls full ∧ c < w ∧ (goK Kt) (.lst (natDs (valsF ls full c))) S) := ⟨fun h => o_law_values h⟩
instance {K : PySem.W.Frag} {ds : List Dat} {S : Store} {Kt : KE} {Xo : KX} : Open (sp_law_begin K ds S Kt Xo) (∃ (ls : List CL), ds = [.lst (ls.map encCL)] ∧ ls.length ≤ 4000 ∧ (goK Kt) (.tup (natDs (firstF ls))) S) := ⟨fun h => o_law_begin h⟩
instance {K : PySem.W.Frag} {ds : List Dat} {S : Store} {Kt : KE} {Xo : KX} : Open (sp_law_step K ds S Kt Xo) (∃ (w : Nat) (ls : List CL) (full : List Nat) (c : Nat), ds = [.lst (ls.map encCL), .tup (natDs full), natD c] ∧ okCs w ls ∧ ls.length ≤ 4000 ∧ okFull w ls full ∧ c < w ∧ (goK Kt) (.tup (natDs (stepF ls full c))) S) := ⟨fun h => o_law_step h⟩
instance {K : PySem.W.Frag} {ds : List Dat} {S : Store} {Kt : KE} {Xo : KX} : Open (sp_law_run K ds S Kt Xo) (∃ (ls : List CL) (a z : Str), ds = [.lst (ls.map encCL), .str a, .str z] ∧ isAlpha a = true ∧ okCs a.length ls ∧ ls.length ≤ 4000 ∧ isWord a z = true ∧ z.length ≤ 1000000 ∧ (goK Kt) (.tup (natDs (runF a ls (firstF ls) z.cps.toList))) S) := ⟨fun h => o_law_run h⟩
instance {K : PySem.W.Frag} {ds : List Dat} {S : Store} {Kt : KE} {Xo : KX} : Open (sp_law_last K ds S Kt Xo) (∃ (w : Nat) (ls : List CL) (full : List Nat), ds = [.lst (ls.map encCL), .tup (natDs full)] ∧ 0 < w ∧ okCs w ls ∧ 0 < ls.length ∧ ls.length ≤ 4000 ∧ okFull w ls full ∧ (goK Kt) (natD (lastF ls full)) S) := ⟨fun h => o_law_last h⟩
instance {K : PySem.W.Frag} {ds : List Dat} {S : Store} {Kt : KE} {Xo : KX} : Open (sp_law_cells K ds S Kt Xo) (∃ (ls : List CL), ds = [.lst (ls.map encCL)] ∧ ls.length ≤ 4000 ∧ (goK Kt) (.lst (natDs (cellsOf ls))) S) := ⟨fun h => o_law_cells h⟩
end DL
namespace DL
open PySem L2
local macro_rules | `(tactic| walk_at "sm") => `(tactic| (repeat (first | exact same_str | exact same_int | exact same_non | exact same_bl | ((with_reducible refine same_tA ?_ ?_); · rfl) | ((with_reducible refine same_lA ?_ ?_); · rfl) | with_reducible exact All2.nil | with_reducible refine All2.cons ?_ ?_ | with_reducible assumption)))
local macro_rules | `(tactic| walk_at "p") => `(tactic| (repeat (first | with_reducible refine ma_and (by assumption) ?_ | ((with_reducible refine And.intro ?_ ?_); (next => first | with_reducible assumption | rfl | decide | omega)) | with_reducible apply Exists.intro)))
local macro_rules | `(tactic| walk_at "w") => `(tactic| (repeat (first
  | with_reducible refine Step.h ?_ | ((with_reducible refine x_putL ?_ ?_); · rfl) | ((with_reducible refine x_name ?_ ?_); · exact of_decide_eq_true rfl) | ((with_reducible refine x_gtup ?_ ?_); · rfl) | ((with_reducible refine x_szL ?_ ?_); · rfl) | dsimp only [List.set_cons_succ, List.set_cons_zero]
  | ((with_reducible refine Open.h ?_); (repeat (first | with_reducible refine ma_and (by assumption) ?_ | ((with_reducible refine And.intro ?_ ?_); (next => first | with_reducible assumption | rfl | decide | omega)) | with_reducible apply Exists.intro))) | ((with_reducible refine x_is ?_ ?_); · rfl) | ((with_reducible refine x_isnot ?_ ?_); · rfl) | ((with_reducible refine x_isiD ?_ ?_ ?_); (next => rfl); (next => decide)) | ((with_reducible refine x_isiD2 ?_ ?_ ?_ ?_); (next => rfl); (next => decide); (next => decide))
  | ((with_reducible refine x_inTi ?_ ?_); · rfl) | ((with_reducible refine x_inTn ?_ ?_); · rfl) | ((with_reducible refine x_iteT2 ?_ ?_); · rfl) | ((with_reducible refine x_iteF2 ?_ ?_); · rfl) | (with_reducible first | refine mg_ma (by assumption) (by decide +kernel) ?_ | refine mg_ma1 (by assumption) (by decide +kernel) ?_ | refine pg_ma (by assumption) ?_ | refine pg_ma1 (by assumption) ?_ | refine fg_al (by assumption) ?_ | refine fg_rows (by assumption) ?_ | refine fg_start (by assumption) ?_) | ((with_reducible refine o_law_same ?_ ?_); (next => (repeat (first | exact same_str | exact same_int | exact same_non | exact same_bl | ((with_reducible refine same_tA ?_ ?_); · rfl) | ((with_reducible refine same_lA ?_ ?_); · rfl) | with_reducible exact All2.nil | with_reducible refine All2.cons ?_ ?_ | with_reducible assumption)); done))
  | ((with_reducible refine rt_here ?_ ?_); (next => first | ((simp only [below, nats_below', encRow]); done) | with_reducible assumption)) | (with_reducible refine nx_here ?_) | rw [cutD_one])))
theorem r_is_table {KF : PySem.W.Frag} {ds S K X} (h : sp_is_table KF ds S K X) (hb : belows S.length ds) (hS : belows S.length S) : u_is_table KF (endsOf S K X) (startD ["value", "size", "one"] ds) S := by
  have szl : sizeLine = 16777216 := rfl
  obtain ⟨d, n, rfl, ⟨hk, hx⟩, k⟩ := h
  show u_is_table KF (endsOf S K X) [some d, some (natD n), none] S
  unfold u_is_table
  walk_at "w"
  refine x_isiK hk (by decide) fun t e => ?_
  walk_at "w"
  rw [isB_tup]
  refine x_ite (fun e1 => ?_) (fun e1 => ?_)
  · obtain rfl := of_decide_eq_true e1
    obtain ⟨xs, rfl⟩ := ty_tup e
    obtain ⟨h1, h2⟩ := hx xs rfl
    walk_at "w"
    refine x_ite (fun e2 => ?_) (fun e2 => ?_)
    · have e2 : xs.length = n := by have := of_decide_eq_true e2; omega
      walk_at "w"
      refine ⟨xs, rfl, ?_⟩
      refine lc_I xs (f := fun x => .bl (isNumB 0 999 x)) rfl (by omega) (fun a ha Kt Kf hk => ?_) ?_
      · dsimp only [wipeD, List.set_cons_succ, List.set_cons_zero]
        walk_at "w"
        exact num_of (h2 a ha) hk
      walk_at "w"
      refine x_bools (bs := xs.map (isNumB 0 999)) (by show some _ = some _; rw [List.map_map]; rfl) ?_
      refine rt_here (by simp only [below]) ?_
      have : tableB n (.tup xs) = ((xs.map (isNumB 0 999)).all id) := by
        simp only [tableB]
        rw [decide_eq_true e2, Bool.true_and, List.all_map]; rfl
      rw [← this]; exact k
    · have e2' : ¬ xs.length = n := by have := of_decide_eq_false e2; omega
      walk_at "w"
      rw [e2]
      have : tableB n (.tup xs) = false := by simp only [tableB]; rw [decide_eq_false e2']; rfl
      rw [this] at k; exact k
  · walk_at "w"
    rw [e1]
    have : tableB n d = false := by
      cases d with
      | tup xs => simp [tyS] at e; subst e; exact absurd e1 (by decide)
      | _ => rfl
    rw [this] at k; exact k
theorem natOf_num {lo hi : Int} {d : Dat} (h0 : 0 ≤ lo) (h : isNumB lo hi d = true) : d = natD (numD d) ∧ lo ≤ (numD d : Int) ∧ (numD d : Int) ≤ hi := by
  cases d with
  | int v =>
    simp only [isNumB, Bool.and_eq_true, decide_eq_true_eq] at h
    have : ((numD (.int v) : Nat) : Int) = v := by show ((v.toNat : Nat) : Int) = v; omega
    exact ⟨by show Dat.int v = Dat.int _; rw [this], by omega, by omega⟩
  | _ => cases h
theorem table_of {n : Nat} {d : Dat} (h : tableB n d = true) : d = encRow (rowD d) ∧ (rowD d).length = n ∧ ∀ x ∈ rowD d, x ≤ 999 := by
  cases d with
  | tup xs =>
    simp only [tableB, Bool.and_eq_true, decide_eq_true_eq] at h
    obtain ⟨h1, h2⟩ := h
    have h3 := List.all_eq_true.mp h2
    refine ⟨?_, by show (xs.map numD).length = n; rw [List.length_map]; exact h1, fun x hx => ?_⟩
    · show Dat.tup xs = .tup ((xs.map numD).map fun (n : Nat) => Dat.int (n : Int))
      congr 1
      rw [List.map_map]
      conv => lhs; rw [← List.map_id xs]
      exact List.map_congr_left fun x hx => (natOf_num (by decide) (h3 x hx)).1
    · obtain ⟨y, hy, rfl⟩ := List.mem_map.mp (show x ∈ xs.map numD from hx)
      have := (natOf_num (by decide) (h3 y hy)).2.2
      omega
  | _ => cases h
theorem maxN_le : ∀ {xs : List Nat} {m : Nat}, (∀ x ∈ xs, x ≤ m) → maxN xs ≤ m
  | [], m, _ => Nat.zero_le _
  | x :: xs, m, h => by
    have h1 := h x List.mem_cons_self
    have h2 := maxN_le (xs := xs) fun y hy => h y (List.mem_cons_of_mem _ hy)
    show max x (maxN xs) ≤ m
    omega
theorem le_maxN : ∀ {xs : List Nat} {x : Nat}, x ∈ xs → x ≤ maxN xs
  | y :: xs, x, h => by
    show x ≤ max y (maxN xs)
    rcases List.mem_cons.mp h with rfl | h
    · omega
    · have := le_maxN h; omega
theorem maxN_eq {xs : List Nat} {m : Int} (h : m ∈ xs.map fun (n : Nat) => (n : Int)) (k : ∀ y ∈ xs.map fun (n : Nat) => (n : Int), y ≤ m) : m = (maxN xs : Int) := by
  obtain ⟨x, hx, rfl⟩ := List.mem_map.mp h
  have h1 := le_maxN hx
  have h2 : maxN xs ≤ x := maxN_le fun y hy => by
    have := k (y : Int) (List.mem_map.mpr ⟨y, hy, rfl⟩)
    omega
  have : maxN xs = x := by omega
  rw [this]
theorem x_maxN {S : Store} {K : KE} {d : Dat} {ns : List Nat} (e : seqD S d = some (natDs ns)) (h : 0 < ns.length) (k : K (natD (maxN ns)) S) : gMaxS [d] S K :=
  ⟨ns.map fun (n : Nat) => (n : Int), by rw [e, List.map_map]; rfl, by rw [List.length_map]; exact h, fun m h1 h2 => by rw [maxN_eq h1 h2]; exact k⟩
theorem deep_seq {S : Store} {n : Nat} {d : Dat} {t : String} (e : tyS S d = some t) (h : okDeep S (n + 1) d) (e1 : decide (t = "tuple") = true) : ∃ xs, d = .tup xs ∧ xs.length ≤ 1000000 ∧ ∀ x ∈ xs, okDeep S n x := by
  obtain rfl := of_decide_eq_true e1
  obtain ⟨xs, rfl⟩ := ty_tup e
  exact ⟨xs, rfl, h.2 xs rfl⟩
theorem deep_kind {S : Store} : ∀ {n : Nat} {d : Dat}, okDeep S n d → okKind S d
  | 0, _, h => h
  | _ + 1, _, h => h.1
theorem not_tup {S : Store} {d : Dat} {t : String} (e : tyS S d = some t) (e1 : decide (t = "tuple") = false) : ∀ xs, d ≠ .tup xs := fun xs h => by
  subst h
  simp [tyS] at e; subst e; exact absurd e1 (by decide)
theorem r_size_of_table {KF : PySem.W.Frag} {ds S K X} (h : sp_size_of_table KF ds S K X) (hb : belows S.length ds) (hS : belows S.length S) : u_size_of_table KF (endsOf S K X) (startD ["value", "sizes", "row"] ds) S := by
  have szl : sizeLine = 16777216 := rfl
  obtain ⟨v, ss, rfl, hl, hp, hd, k⟩ := h
  show u_size_of_table KF (endsOf S K X) [some v, some (.lst (natDs ss)), none] S
  unfold u_size_of_table
  walk_at "w"
  refine x_lenL (xs := natDs ss) rfl ?_
  walk_at "w"
  rw [show (natDs ss).length = ss.length by simp]
  rcases hl with hl | hl
  · match ss, hl, hp, k with
    | [m], _, hp, k =>
      walk_at "w"
      have hd1 : okDeep S 1 v := ⟨hd.1, fun xs h => ⟨(hd.2 xs h).1, fun x hx => ((hd.2 xs h).2 x hx).1⟩⟩
      refine x_ixL (xs := natDs [m]) rfl (d := natD m) rfl ?_
      walk_at "w"
      refine x_ite (fun e => ?_) (fun e => ?_)
      · obtain ⟨h1, h2, h3⟩ := table_of e
        have hm := hp m List.mem_cons_self
        have : tabSz [m] v = some (maxN (rowD v) + 1) := by simp only [tabSz]; rw [if_pos e]
        rw [this] at k
        walk_at "w"
        refine x_maxN (ns := rowD v) (congrArg (seqD S) h1) (by omega) ?_
        walk_at "w"
        exact k
      · have : tabSz [m] v = none := by simp only [tabSz]; rw [if_neg (by rw [e]; decide)]
        rw [this] at k
        walk_at "w"
        exact k
  · match ss, hl, hp, k with
    | [m, q], _, hp, k =>
      walk_at "w"
      refine x_isiK hd.1 (by decide) fun t e => ?_
      walk_at "w"
      rw [isB_tup]
      cases e1 : decide (t = "tuple") with
      | false =>
        have hn := not_tup e e1
        have : tabSz [m, q] v = none := by
          cases v with
          | tup xs => exact (hn xs rfl).elim
          | _ => rfl
        rw [this] at k
        walk_at "w"
        exact k
      | true =>
        obtain ⟨rs, rfl, hl, hr⟩ := deep_seq e hd e1
        walk_at "w"
        refine x_ixL (xs := natDs [m, q]) rfl (d := natD m) rfl ?_
        walk_at "w"
        refine x_ite (fun e2 => ?_) (fun e2 => ?_)
        · have e2 : ¬ rs.length = m := by simp at e2; omega
          have : tabSz [m, q] (.tup rs) = none := by simp only [tabSz]; rw [if_neg fun z => e2 z.1]
          rw [this] at k
          walk_at "w"
          exact k
        · have e2 : rs.length = m := by simp at e2; omega
          walk_at "w"
          refine ⟨rs, rfl, ?_⟩
          refine lc_I rs (f := fun x => .bl (tableB q x)) rfl (by omega) (fun a ha Kt Kf hk => ?_) ?_
          · dsimp only [wipeD, List.set_cons_succ, List.set_cons_zero]
            walk_at "w"
            have hra := hr a ha
            refine x_ixL (xs := natDs [m, q]) rfl (d := natD q) rfl ?_
            walk_at "w"
            exact hk
          walk_at "w"
          refine x_bools (bs := rs.map (tableB q)) (by show some _ = some _; rw [List.map_map]; rfl) ?_
          walk_at "w"
          have hall : ((rs.map (tableB q)).all id) = rs.all (tableB q) := by rw [List.all_map]; rfl
          rw [hall]
          refine x_ite (fun e3 => ?_) (fun e3 => ?_)
          · have h3 := List.all_eq_true.mp e3
            have hm := hp m List.mem_cons_self
            have hq := hp q (List.mem_cons_of_mem _ List.mem_cons_self)
            have : tabSz [m, q] (.tup rs) = some (maxN (rs.map fun r => maxN (rowD r)) + 1) := by simp only [tabSz]; rw [if_pos ⟨e2, e3⟩]
            rw [this] at k
            walk_at "w"
            refine ⟨rs, rfl, ?_⟩
            refine lc_I rs (f := fun x => natD (maxN (rowD x))) rfl (by omega) (fun a ha Kt Kf hk => ?_) ?_
            · dsimp only [wipeD, List.set_cons_succ, List.set_cons_zero]
              obtain ⟨h1, h2, _⟩ := table_of (h3 a ha)
              walk_at "w"
              exact x_maxN (ns := rowD a) (congrArg (seqD S) h1) (by omega) hk
            walk_at "w"
            refine x_maxN (ns := rs.map fun r => maxN (rowD r)) (by show some _ = some (List.map _ (List.map _ _)); rw [List.map_map]; rfl) (by rw [List.length_map]; omega) ?_
            walk_at "w"
            exact k
          · have : tabSz [m, q] (.tup rs) = none := by simp only [tabSz]; rw [if_neg fun z => by rw [e3] at z; exact absurd z.2 (by decide)]
            rw [this] at k
            walk_at "w"
            exact k
end DL
namespace DL
open PySem L2
local macro_rules | `(tactic| walk_at "sm") => `(tactic| (repeat (first | exact same_str | exact same_int | exact same_non | exact same_bl | ((with_reducible refine same_tA ?_ ?_); · rfl) | ((with_reducible refine same_lA ?_ ?_); · rfl) | with_reducible exact All2.nil | with_reducible refine All2.cons ?_ ?_ | with_reducible assumption)))
local macro_rules | `(tactic| walk_at "p") => `(tactic| (repeat (first | with_reducible refine ma_and (by assumption) ?_ | ((with_reducible refine And.intro ?_ ?_); (next => first | with_reducible assumption | rfl | decide | omega)) | with_reducible apply Exists.intro)))
local macro_rules | `(tactic| walk_at "w") => `(tactic| (repeat (first
  | with_reducible refine Step.h ?_ | ((with_reducible refine x_putL ?_ ?_); · rfl) | ((with_reducible refine x_name ?_ ?_); · exact of_decide_eq_true rfl) | ((with_reducible refine x_gtup ?_ ?_); · rfl) | ((with_reducible refine x_szL ?_ ?_); · rfl) | dsimp only [List.set_cons_succ, List.set_cons_zero]
  | ((with_reducible refine Open.h ?_); (repeat (first | with_reducible refine ma_and (by assumption) ?_ | ((with_reducible refine And.intro ?_ ?_); (next => first | with_reducible assumption | rfl | decide | omega)) | with_reducible apply Exists.intro))) | ((with_reducible refine x_is ?_ ?_); · rfl) | ((with_reducible refine x_isnot ?_ ?_); · rfl) | ((with_reducible refine x_isiD ?_ ?_ ?_); (next => rfl); (next => decide)) | ((with_reducible refine x_isiD2 ?_ ?_ ?_ ?_); (next => rfl); (next => decide); (next => decide))
  | ((with_reducible refine x_inTi ?_ ?_); · rfl) | ((with_reducible refine x_inTn ?_ ?_); · rfl) | ((with_reducible refine x_iteT2 ?_ ?_); · rfl) | ((with_reducible refine x_iteF2 ?_ ?_); · rfl) | (with_reducible first | refine mg_ma (by assumption) (by decide +kernel) ?_ | refine mg_ma1 (by assumption) (by decide +kernel) ?_ | refine pg_ma (by assumption) ?_ | refine pg_ma1 (by assumption) ?_ | refine fg_al (by assumption) ?_ | refine fg_rows (by assumption) ?_ | refine fg_start (by assumption) ?_) | ((with_reducible refine o_law_same ?_ ?_); (next => (repeat (first | exact same_str | exact same_int | exact same_non | exact same_bl | ((with_reducible refine same_tA ?_ ?_); · rfl) | ((with_reducible refine same_lA ?_ ?_); · rfl) | with_reducible exact All2.nil | with_reducible refine All2.cons ?_ ?_ | with_reducible assumption)); done))
  | ((with_reducible refine rt_here ?_ ?_); (next => first | ((simp only [below, nats_below', encRow]); done) | with_reducible assumption)) | (with_reducible refine nx_here ?_) | rw [cutD_one])))
theorem seq_len {S : Store} {d : Dat} {K : KE} {ns : List Nat} (e : nats S d ns) (k : K (natD ns.length) S) : gLen [d] S K := x_lenL e (by rw [show (natDs ns).length = ns.length by simp]; exact k)
theorem seq_ix {S : Store} {d : Dat} {K : KE} {ns : List Nat} {r x : Nat} (e : nats S d ns) (h : ns[r]? = some x) (k : K (natD x) S) : gIx d (natD r) S K := x_ixn e (by rw [List.getElem?_map, h]; rfl) k
theorem prime_of2 {KF : PySem.W.Frag} {S : Store} {d : Dat} {m : Int} {Kt : KE} {X : KX} (hm : m < 1000000) (h : okKind S d) (k : Kt (.bl (isNumB 2 m d && primeB (numD d))) S) : sp_is_prime KF [d, .int m] S Kt X := by
  obtain ⟨t, ht, hmm⟩ := h
  by_cases e : t = "int"
  · subst e
    obtain ⟨v, rfl⟩ := ty_int ht
    refine .inl ⟨v, m, rfl, hm, ?_⟩
    have : (decide (v ≤ m) && primeB v) = (isNumB 2 m (.int v) && primeB (numD (.int v))) := by
      show _ = (decide (2 ≤ v) && decide (v ≤ m) && primeB ((v.toNat : Nat) : Int))
      by_cases h2 : 2 ≤ v
      · rw [show ((v.toNat : Nat) : Int) = v by omega, decide_eq_true h2, Bool.true_and]
      · rw [decide_eq_false h2, Bool.false_and, Bool.false_and]
        have : primeB v = false := by unfold primeB; simp only [decide_eq_false_iff_not]; exact fun z => h2 z.1
        rw [this, Bool.and_false]
    rw [this]; exact k
  · refine .inr ⟨d, m, rfl, ⟨t, ht, e, hmm⟩, ?_⟩
    have : isNumB 2 m d = false := by
      cases d with
      | int v => simp [tyS] at ht; exact (e ht.symm).elim
      | _ => rfl
    rw [this] at k
    exact k
theorem num_b {sz : List Nat} {c : Dat} (h : isNumB 0 ((sz.length : Int) - 1) c = true) : c = natD (numD c) ∧ numD c < sz.length := by
  obtain ⟨h1, h2, h3⟩ := natOf_num (Int.le_refl 0) h
  exact ⟨h1, by omega⟩
theorem getD_some {sz : List Nat} {i : Nat} (h : i < sz.length) : sz[i]? = some (sz.getD i 0) := by simp [List.getD, List.getElem?_eq_getElem h]
theorem r_size_of_cell {KF : PySem.W.Frag} {ds S K X} (h : sp_size_of_cell KF ds S K X) (hb : belows S.length ds) (hS : belows S.length S) : u_size_of_cell KF (endsOf S K X) (startD ["line", "sizes", "many", "first", "ref", "good"] ds) S := by
  have szl : sizeLine = 16777216 := rfl
  obtain ⟨z, a, b, c, sd, sz, rfl, hz, ka, kb, kc, hn, k⟩ := h
  simp only [belows, below] at hb
  show u_size_of_cell KF (endsOf S K X) [some (.tup [.str z, a, b, c]), some sd, none, none, none, none] S
  unfold u_size_of_cell
  walk_at "w"
  refine seq_len hn ?_
  walk_at "w"
  refine num_of kc ?_
  walk_at "w"
  cases e1 : isNumB 0 ((sz.length : Int) - 1) c with
  | false =>
    have : cellSz sz z a b c = none := by simp only [cellSz]; rw [if_neg fun h => by rw [e1] at h; exact absurd h.1 (by decide)]
    rw [this] at k
    walk_at "w"
    exact k
  | true =>
    obtain ⟨hc1, hc2⟩ := num_b e1
    walk_at "w"
    refine prime_of2 (by decide) ka ?_
    walk_at "w"
    have fin : ∀ {g : Bool}, (g = true ↔ (if z = "latch" then isNumB 2 999 a = true ∧ sz.getD (numD c) 0 ≤ numD a + 1 else isNumB 2 97 a = true ∧ primeB (numD a) = true)) →
        (uIf (uAnd (uTru (uVar 5)) (uTru (uCall (sp_is_number KF) [] (uCons (uVar 3) (uCons (uC (.int 0)) (uCons (uOp gSub (uVar 2) (uC (.int 1))) uNil)))))) (uVar 2) (uC .non)) [some (.tup [.str z, a, b, c]), some sd, some a, some b, some c, some (.bl g)] S (fun d S1 => (endsOf S K X).rt d S1) (fun e S1 => (endsOf S K X).ex e [some (.tup [.str z, a, b, c]), some sd, some a, some b, some c, some (.bl g)] S1) := by
      intro g hg
      cases g with
      | false =>
        have : cellSz sz z a b c = none := by simp only [cellSz]; rw [if_neg fun h => absurd (hg.mpr h.2.1) (by decide)]
        rw [this] at k
        walk_at "w"
        exact k
      | true =>
        have hg1 := hg.mp rfl
        have ha : a = natD (numD a) ∧ 2 ≤ numD a := by
          by_cases e : z = "latch"
          · rw [if_pos e] at hg1
            obtain ⟨h1, h2, h3⟩ := natOf_num (by decide) hg1.1
            exact ⟨h1, by omega⟩
          · rw [if_neg e] at hg1
            obtain ⟨h1, h2, h3⟩ := natOf_num (by decide) hg1.1
            exact ⟨h1, by omega⟩
        obtain ⟨ha, ha2⟩ := ha
        have hgo : ∀ {D : Dat → Store → Prop}, D (.int ((numD a : Int) - 1)) S → gSub a (.int 1) S D := fun {D} h => by
          rw [ha]
          walk_at "w"
          exact h
        walk_at "w"
        refine hgo ?_
        walk_at "w"
        refine num_of kb ?_
        walk_at "w"
        cases e4 : isNumB 0 ((numD a : Int) - 1) b with
        | false =>
          have : cellSz sz z a b c = none := by simp only [cellSz]; rw [if_neg fun h => by rw [e4] at h; exact absurd h.2.2 (by decide)]
          rw [this] at k
          walk_at "w"
          exact k
        | true =>
          have : cellSz sz z a b c = some (numD a) := by simp only [cellSz]; rw [if_pos ⟨e1, hg1, e4⟩]
          rw [this] at k
          walk_at "w"
          refine rt_here hb.1.2.1 ?_
          rw [ha]; exact k
    refine x_ite (fun e2 => ?_) (fun e2 => ?_)
    · have e2 : z = "latch" := of_decide_eq_true e2
      walk_at "w"
      refine num_of ka ?_
      walk_at "w"
      refine x_ite (fun e3 => ?_) (fun e3 => ?_)
      · obtain ⟨ha, ha2, ha3⟩ := natOf_num (by decide) e3
        have hgo : ∀ {D : Dat → Store → Prop}, D (.int ((numD a : Int) + 1)) S → gAdd a (.int 1) S D := fun {D} h => by
          rw [ha]
          walk_at "w"
          exact h
        have hix : ∀ {D : Dat → Store → Prop}, D (natD (sz.getD (numD c) 0)) S → gIx sd c S D := fun {D} h => by
          rw [hc1]
          exact seq_ix hn (getD_some hc2) h
        walk_at "w"
        refine hix ?_
        walk_at "w"
        refine hgo ?_
        walk_at "w"
        refine fin ?_
        rw [if_pos e2, decide_eq_true_eq]
        exact ⟨fun h => ⟨e3, by omega⟩, fun h => by omega⟩
      · walk_at "w"
        refine fin ?_
        rw [if_pos e2, e3]
        exact ⟨fun h => absurd h (by decide), fun h => h.1⟩
    · have e2 : z ≠ "latch" := of_decide_eq_false e2
      walk_at "w"
      refine fin ?_
      rw [if_neg e2, Bool.and_eq_true]
theorem r_refs_of {KF : PySem.W.Frag} {ds S K X} (h : sp_refs_of KF ds S K X) (hb : belows S.length ds) (hS : belows S.length S) : u_refs_of KF (endsOf S K X) (startD ["line"] ds) S := by
  have szl : sizeLine = 16777216 := rfl
  obtain ⟨l, rfl, k⟩ := h
  show u_refs_of KF (endsOf S K X) [some (encCL l)] S
  unfold u_refs_of
  cases l <;> (
    show (uRet _) (endsOf S K X) [some (.tup _)] S
    walk_at "w"
    refine x_list rfl ?_
    walk_at "w"
    refine x_list rfl ?_
    walk_at "w"
    refine x_list rfl ?_
    walk_at "w"
    refine x_list rfl ?_
    walk_at "w"
    refine ⟨[(.inr "wire", _), (.inr "join", _), (.inr "latch", _), (.inr "counter", _)], rfl, Nat.le_of_ble_eq_true rfl, ?_⟩
    refine ⟨⟨_, rfl⟩, ?_⟩
    walk_at "w"
    refine ⟨_, .inr _, rfl, rfl, ?_⟩
    exact rt_here (d := .lst (natDs (refsCL _))) (by simp only [below]; exact nats_below' _) k)
theorem r_is_cell {KF : PySem.W.Frag} {ds S K X} (h : sp_is_cell KF ds S K X) (hb : belows S.length ds) (hS : belows S.length S) : u_is_cell KF (endsOf S K X) (startD ["line"] ds) S := by
  have szl : sizeLine = 16777216 := rfl
  obtain ⟨l, rfl, k⟩ := h
  show u_is_cell KF (endsOf S K X) [some (encCL l)] S
  unfold u_is_cell
  cases l <;> (
    show (uRet _) (endsOf S K X) [some (.tup _)] S
    walk_at "w"
    exact k)
end DL
namespace DL
open PySem L2
local macro_rules | `(tactic| walk_at "sm") => `(tactic| (repeat (first | exact same_str | exact same_int | exact same_non | exact same_bl | ((with_reducible refine same_tA ?_ ?_); · rfl) | ((with_reducible refine same_lA ?_ ?_); · rfl) | with_reducible exact All2.nil | with_reducible refine All2.cons ?_ ?_ | with_reducible assumption)))
local macro_rules | `(tactic| walk_at "p") => `(tactic| (repeat (first | with_reducible refine ma_and (by assumption) ?_ | ((with_reducible refine And.intro ?_ ?_); (next => first | with_reducible assumption | rfl | decide | omega)) | with_reducible apply Exists.intro)))
local macro_rules | `(tactic| walk_at "w") => `(tactic| (repeat (first
  | with_reducible refine Step.h ?_ | ((with_reducible refine x_putL ?_ ?_); · rfl) | ((with_reducible refine x_name ?_ ?_); · exact of_decide_eq_true rfl) | ((with_reducible refine x_gtup ?_ ?_); · rfl) | ((with_reducible refine x_szL ?_ ?_); · rfl) | dsimp only [List.set_cons_succ, List.set_cons_zero]
  | ((with_reducible refine Open.h ?_); (repeat (first | with_reducible refine ma_and (by assumption) ?_ | ((with_reducible refine And.intro ?_ ?_); (next => first | with_reducible assumption | rfl | decide | omega)) | with_reducible apply Exists.intro))) | ((with_reducible refine x_is ?_ ?_); · rfl) | ((with_reducible refine x_isnot ?_ ?_); · rfl) | ((with_reducible refine x_isiD ?_ ?_ ?_); (next => rfl); (next => decide)) | ((with_reducible refine x_isiD2 ?_ ?_ ?_ ?_); (next => rfl); (next => decide); (next => decide))
  | ((with_reducible refine x_inTi ?_ ?_); · rfl) | ((with_reducible refine x_inTn ?_ ?_); · rfl) | ((with_reducible refine x_iteT2 ?_ ?_); · rfl) | ((with_reducible refine x_iteF2 ?_ ?_); · rfl) | (with_reducible first | refine mg_ma (by assumption) (by decide +kernel) ?_ | refine mg_ma1 (by assumption) (by decide +kernel) ?_ | refine pg_ma (by assumption) ?_ | refine pg_ma1 (by assumption) ?_ | refine fg_al (by assumption) ?_ | refine fg_rows (by assumption) ?_ | refine fg_start (by assumption) ?_) | ((with_reducible refine o_law_same ?_ ?_); (next => (repeat (first | exact same_str | exact same_int | exact same_non | exact same_bl | ((with_reducible refine same_tA ?_ ?_); · rfl) | ((with_reducible refine same_lA ?_ ?_); · rfl) | with_reducible exact All2.nil | with_reducible refine All2.cons ?_ ?_ | with_reducible assumption)); done))
  | ((with_reducible refine rt_here ?_ ?_); (next => first | ((simp only [below, nats_below', encRow]); done) | with_reducible assumption)) | (with_reducible refine nx_here ?_) | rw [cutD_one])))
theorem ty_strS {S : Store} {d : Dat} (h : tyS S d = some "str") : ∃ z, d = .str z := by
  cases d with
  | str z => exact ⟨z, rfl⟩
  | cell n =>
    simp only [tyS] at h
    split at h <;> simp at h
  | _ => simp [tyS] at h
theorem not_str {S : Store} {d : Dat} {t : String} (e : tyS S d = some t) (e1 : isB t "str" = false) : ∀ z, d ≠ .str z := fun z h => by
  subst h
  simp [tyS] at e; subst e; exact absurd e1 (by decide)
theorem isB_str {t : String} : isB t "str" = decide (t = "str") := by
  unfold isB
  simp only [beq_iff_eq, show ("str" == "int") = false by decide, Bool.and_false, Bool.or_false]
  by_cases h : t = "str"
  · subst h; rfl
  · simp [h]
theorem line_no {sz : List Nat} {d : Dat} (h : ∀ z r, d ≠ .tup (.str z :: r)) : lineD sz d = none := by
  unfold lineD
  split <;> first | rfl | exact absurd rfl (h _ _)
theorem key_in {S : Store} {K : KE} {z : Str} {n : Nat} (hz : PyData.strOk z = true) (k : K (.bl (decide ((z = "wire" ∧ n = 3) ∨ (z = "join" ∧ n = 4)))) S) : gInP id (.tup [.str z, natD n]) (.tup [.tup [.str "wire", .int 3], .tup [.str "join", .int 4]]) S K := by
  have h1 : PyData.strOk "wire" = true := by decide +kernel
  have h2 : PyData.strOk "join" = true := by decide +kernel
  refine ⟨_, _, _, rfl, .tup (.cons .str (.cons .int .nil)), .cons (.tup (.cons .str (.cons .int .nil))) (.cons (.tup (.cons .str (.cons .int .nil))) .nil), by simp [SeqAt.shaped, PyData.canLay0, PyData.canLayAll0, PyData.depth, PyData.depthAll, hz], by simp [SeqAt.shaped, PyData.canLay0, PyData.canLayAll0, PyData.depth, PyData.depthAll, h1, h2], ?_⟩
  have : (([PyData.tuple [.str "wire", .int 3], .tuple [.str "join", .int 4]] : List PyData).any fun y => PyData.eqv y (.tuple [.str z, .int (n : Int)])) = decide ((z = "wire" ∧ n = 3) ∨ (z = "join" ∧ n = 4)) := by
    have e1 : PyData.eqv (.str "wire") (.str z) = decide (z = "wire") := by simp only [PyData.eqv]; exact decide_eq_decide.mpr eq_comm
    have e2 : PyData.eqv (.str "join") (.str z) = decide (z = "join") := by simp only [PyData.eqv]; exact decide_eq_decide.mpr eq_comm
    have e3 : PyData.eqv (.int 3) (.int (n : Int)) = decide (n = 3) := by simp only [PyData.eqv]; exact decide_eq_decide.mpr (by omega)
    have e4 : PyData.eqv (.int 4) (.int (n : Int)) = decide (n = 4) := by simp only [PyData.eqv]; exact decide_eq_decide.mpr (by omega)
    simp only [List.any_cons, List.any_nil, Bool.or_false]
    have e5 : ∀ a b c d : PyData, PyData.eqv (.tuple [a, b]) (.tuple [c, d]) = (PyData.eqv a c && PyData.eqv b d) := fun a b c d => by simp only [PyData.eqv, PyData.eqvAll, Bool.and_true]
    rw [e5, e5, e1, e2, e3, e4]
    simp
  show K (.bl (([PyData.tuple [.str "wire", .int 3], .tuple [.str "join", .int 4]] : List PyData).any fun y => PyData.eqv y (.tuple [.str z, .int (n : Int)]))) S
  rw [this]
  exact k
theorem optN_below {n : Nat} {o : Option Nat} : below n (optN o) := by cases o <;> (unfold optN; simp only [below])
theorem any_no {z : Str} (h1 : z ≠ "latch") (h2 : z ≠ "counter") : anyStr z [.str "latch", .str "counter"] = false := by
  simp only [anyStr, Bool.or_false, Bool.or_eq_false_iff, decide_eq_false_iff_not]
  exact ⟨fun h => h1 h.symm, fun h => h2 h.symm⟩
section
variable {sz : List Nat} {z : Str} {a b c d : Dat} {r : List Dat}
theorem line0 (h : z ≠ "letter") : lineD sz (.tup [.str z]) = none := by simp [lineD, h]
theorem line1 (h : z ≠ "const") : lineD sz (.tup [.str z, a]) = none := by simp [lineD, h]
theorem line2 (h : z ≠ "wire") : lineD sz (.tup [.str z, a, b]) = none := by simp [lineD, h]
theorem line3 (h1 : z ≠ "join") (h2 : z ≠ "latch") (h3 : z ≠ "counter") : lineD sz (.tup [.str z, a, b, c]) = none := by simp [lineD, h1, h2, h3]
theorem line4 : lineD sz (.tup (.str z :: a :: b :: c :: d :: r)) = none := by simp [lineD]
end
theorem r_size_of_line {KF : PySem.W.Frag} {ds S K X} (h : sp_size_of_line KF ds S K X) (hb : belows S.length ds) (hS : belows S.length S) : u_size_of_line KF (endsOf S K X) (startD ["line", "sizes", "letters", "ref"] ds) S := by
  have szl : sizeLine = 16777216 := rfl
  obtain ⟨d, sd, sz, w, rfl, hd, hz, hn, hl, hp, k⟩ := h
  have kn : lineD sz d = none → K .non S := fun e => by rw [e] at k; exact k
  show u_size_of_line KF (endsOf S K X) [some d, some sd, some (natD w), none] S
  unfold u_size_of_line
  walk_at "w"
  refine x_isiK hd.1 (by decide) fun t e => ?_
  walk_at "w"
  rw [isB_tup]
  cases e1 : decide (t = "tuple") with
  | false =>
    have hno := not_tup e e1
    walk_at "w"
    exact kn (line_no fun z r h => hno _ h)
  | true =>
  obtain ⟨xs, rfl, hxl, hx⟩ := deep_seq e hd e1
  match xs, hx, k, kn, hd, e, hb, hxl, hz with
  | [], _, k, kn, _, _, _, _, _ =>
    walk_at "w"
    exact kn rfl
  | x0 :: r, hx, k, kn, hd, e, hb, hxl, hz =>
  have h0 := deep_kind (hx x0 List.mem_cons_self)
  walk_at "w"
  refine x_isiK h0 (by decide) fun t0 e0 => ?_
  walk_at "w"
  cases e2 : isB t0 "str" with
  | false =>
    have hno := not_str e0 e2
    walk_at "w"
    exact kn (line_no fun z r h => by cases h; exact hno z rfl)
  | true =>
  rw [isB_str] at e2
  obtain rfl := of_decide_eq_true e2
  obtain ⟨z, rfl⟩ := ty_strS e0
  walk_at "w"
  have hzs : PyData.strOk z = true := hz z r rfl
  clear e2 e0 h0 hb
  by_cases z1 : z = "const"
  · subst z1
    match r, hx, k, kn, hxl with
    | [], _, k, kn, _ =>
      walk_at "w"
      refine key_in hzs ?_
      walk_at "w"
      exact kn (line0 (by decide))
    | [a], hx, k, kn, _ =>
      have ha := deep_kind (hx a (by simp))
      walk_at "w"
      refine num_of ha ?_
      walk_at "w"
      cases e3 : isNumB 0 999 a with
      | false =>
        walk_at "w"
        refine kn ?_
        simp [lineD, e3]
      | true =>
        have : lineD sz (.tup [.str "const", a]) = some (.const (numD a)) := by simp [lineD, e3]
        rw [this] at k
        obtain ⟨h1, _, _⟩ := natOf_num (by decide) e3
        walk_at "w"
        have hgo : ∀ {D : Dat → Store → Prop}, D (.int ((numD a : Int) + 1)) S → gAdd a (.int 1) S D := fun {D} h => by
          rw [h1]
          walk_at "w"
          exact h
        refine hgo ?_
        walk_at "w"
        exact k
    | [a, b], _, k, kn, _ =>
      walk_at "w"
      refine key_in hzs ?_
      walk_at "w"
      exact kn (line2 (by decide))
    | [a, b, c], _, k, kn, _ =>
      walk_at "w"
      refine key_in hzs ?_
      walk_at "w"
      exact kn (line3 (by decide) (by decide) (by decide))
    | a :: b :: c :: d :: r, _, k, kn, hxl =>
      walk_at "w"
      refine key_in hzs ?_
      walk_at "w"
      exact kn line4
  by_cases z2 : z = "letter"
  · subst z2
    match r, hx, k, kn, hxl with
    | [], _, k, kn, _ =>
      have : lineD sz (.tup [.str "letter"]) = some .letter := rfl
      rw [this] at k
      walk_at "w"
      exact k
    | [a], hx, k, kn, _ =>
      walk_at "w"
      refine key_in hzs ?_
      walk_at "w"
      exact kn (line1 (by decide))
    | [a, b], _, k, kn, _ =>
      walk_at "w"
      refine key_in hzs ?_
      walk_at "w"
      exact kn (line2 (by decide))
    | [a, b, c], _, k, kn, _ =>
      walk_at "w"
      refine key_in hzs ?_
      walk_at "w"
      exact kn (line3 (by decide) (by decide) (by decide))
    | a :: b :: c :: d :: r, _, k, kn, hxl =>
      walk_at "w"
      refine key_in hzs ?_
      walk_at "w"
      exact kn line4
  by_cases z3 : z = "latch" ∨ z = "counter"
  · have hn1 : decide (z = "const") = false := decide_eq_false z1
    have hn2 : decide (z = "letter") = false := decide_eq_false z2
    have hany : anyStr z [.str "latch", .str "counter"] = true := by
      simp only [anyStr, Bool.or_false, Bool.or_eq_true, decide_eq_true_eq]
      rcases z3 with h | h
      · exact .inl h.symm
      · exact .inr h.symm
    have hwj : z ≠ "wire" ∧ z ≠ "join" := by
      rcases z3 with rfl | rfl <;> decide
    have hkey : ∀ n, decide ((z = "wire" ∧ n = 3) ∨ (z = "join" ∧ n = 4)) = false := fun n => decide_eq_false fun h => h.elim (fun h => hwj.1 h.1) fun h => hwj.2 h.1
    have hl4 : r.length ≠ 3 → lineD sz (.tup (.str z :: r)) = none := fun h => by
      match r, h with
      | [], _ => exact line0 z2
      | [a], _ => exact line1 z1
      | [a, b], _ => exact line2 hwj.1
      | [a, b, c], h => exact absurd rfl h
      | a :: b :: c :: d :: r, _ => exact line4
    match r, hx, k, kn, hxl, hl4 with
    | [], _, k, kn, _, hl4 =>
      walk_at "w"
      refine x_iteF2 hn1 ?_
      walk_at "w"
      refine x_iteF2 hn2 ?_
      walk_at "w"
      refine x_iteT2 hany ?_
      walk_at "w"
      refine key_in hzs ?_
      walk_at "w"
      refine x_iteF2 (hkey _) ?_
      walk_at "w"
      exact kn (hl4 (by simp))
    | [a], hx, k, kn, _, hl4 =>
      walk_at "w"
      refine x_iteF2 hn1 ?_
      walk_at "w"
      refine x_iteF2 hn2 ?_
      walk_at "w"
      refine x_iteT2 hany ?_
      walk_at "w"
      refine key_in hzs ?_
      walk_at "w"
      refine x_iteF2 (hkey _) ?_
      walk_at "w"
      exact kn (hl4 (by simp))
    | [a, b], _, k, kn, _, hl4 =>
      walk_at "w"
      refine x_iteF2 hn1 ?_
      walk_at "w"
      refine x_iteF2 hn2 ?_
      walk_at "w"
      refine x_iteT2 hany ?_
      walk_at "w"
      refine key_in hzs ?_
      walk_at "w"
      refine x_iteF2 (hkey _) ?_
      walk_at "w"
      exact kn (hl4 (by simp))
    | a :: b :: c :: d :: r, _, k, kn, hxl, hl4 =>
      walk_at "w"
      refine x_iteF2 hn1 ?_
      walk_at "w"
      refine x_iteF2 hn2 ?_
      walk_at "w"
      refine x_iteT2 hany ?_
      walk_at "w"
      refine key_in hzs ?_
      walk_at "w"
      refine x_iteF2 (hkey _) ?_
      walk_at "w"
      exact kn (hl4 (by simp))
    | [a, b, c], hx, k, kn, _, _ =>
      have ha := deep_kind (hx a (by simp))
      have hb := deep_kind (hx b (by simp))
      have hc := deep_kind (hx c (by simp))
      walk_at "w"
      refine x_iteF2 hn1 ?_
      walk_at "w"
      refine x_iteF2 hn2 ?_
      walk_at "w"
      refine x_iteT2 hany ?_
      walk_at "w"
      have hcell : (lineD sz (.tup [.str z, a, b, c])).map (sizeCL w) = cellSz sz z a b c := by
        rcases z3 with rfl | rfl
        · simp only [lineD, cellSz, if_neg (show ¬ ((Str.ofString "latch") = "join") by decide), if_true]
          by_cases q : isNumB 0 ((sz.length : Int) - 1) c = true ∧ isNumB 2 999 a = true ∧ sz.getD (numD c) 0 ≤ numD a + 1 ∧ isNumB 0 ((numD a : Int) - 1) b = true
          · rw [if_pos q, if_pos ⟨q.1, ⟨q.2.1, q.2.2.1⟩, q.2.2.2⟩]; rfl
          · rw [if_neg q, if_neg fun h => q ⟨h.1, h.2.1.1, h.2.1.2, h.2.2⟩]; rfl
        · simp only [lineD, cellSz, if_neg (show ¬ ((Str.ofString "counter") = "join") by decide), if_neg (show ¬ ((Str.ofString "counter") = "latch") by decide), if_true]
          by_cases q : isNumB 0 ((sz.length : Int) - 1) c = true ∧ isNumB 2 97 a = true ∧ primeB (numD a) = true ∧ isNumB 0 ((numD a : Int) - 1) b = true
          · rw [if_pos q, if_pos ⟨q.1, ⟨q.2.1, q.2.2.1⟩, q.2.2.2⟩]; rfl
          · rw [if_neg q, if_neg fun h => q ⟨h.1, h.2.1.1, h.2.1.2, h.2.2⟩]; rfl
      rw [hcell] at k
      exact rt_here optN_below k
  have hn1 : decide (z = "const") = false := decide_eq_false z1
  have hn2 : decide (z = "letter") = false := decide_eq_false z2
  have z4 : z ≠ "latch" := fun h => z3 (.inl h)
  have z5 : z ≠ "counter" := fun h => z3 (.inr h)
  have hany := any_no z4 z5
  by_cases z6 : z = "wire"
  · subst z6
    match r, hx, k, kn, hxl with
    | [], _, k, kn, _ =>
      walk_at "w"
      refine key_in hzs ?_
      walk_at "w"
      exact kn (line0 (by decide))
    | [a], hx, k, kn, _ =>
      walk_at "w"
      refine key_in hzs ?_
      walk_at "w"
      exact kn (line1 (by decide))
    | [a, b, c], _, k, kn, _ =>
      walk_at "w"
      refine key_in hzs ?_
      walk_at "w"
      exact kn (line3 (by decide) z4 z5)
    | a :: b :: c :: d :: r, _, k, kn, hxl =>
      walk_at "w"
      refine key_in hzs ?_
      walk_at "w"
      exact kn line4
    | [a, b], hx, k, kn, _ =>
      have ha := deep_kind (hx a (by simp))
      have hb2 := hx b (by simp)
      walk_at "w"
      refine key_in hzs ?_
      walk_at "w"
      have hc : cutD [.str "wire", a, b] (some 1) (some (-1)) = [a] := rfl
      rw [hc]
      refine ⟨[a], rfl, ?_⟩
      have hlen : ∀ {D : KE}, D (natD sz.length) S → gLen [sd] S D := fun h => seq_len hn h
      refine lc_I [a] (f := fun x => .bl (isNumB 0 ((sz.length : Int) - 1) x)) rfl (by show 1 ≤ sizeLine; omega) (fun q hq Kt Kf hk => ?_) ?_
      · obtain rfl := List.mem_singleton.mp hq
        dsimp only [wipeD, List.set_cons_succ, List.set_cons_zero]
        walk_at "w"
        refine hlen ?_
        walk_at "w"
        exact num_of ha hk
      walk_at "w"
      refine x_bools (bs := [isNumB 0 ((sz.length : Int) - 1) a]) rfl ?_
      walk_at "w"
      cases e3 : isNumB 0 ((sz.length : Int) - 1) a with
      | false =>
        walk_at "w"
        exact kn (by simp [lineD, e3])
      | true =>
        obtain ⟨h1, h2⟩ := num_b e3
        have hgs := getD_some h2
        obtain ⟨hp1, hp2⟩ := hp _ (List.mem_of_getElem? hgs)
        walk_at "w"
        refine x_ixL (xs := [.str "wire", a, b]) rfl (d := b) rfl ?_
        walk_at "w"
        rw [hc]
        refine ⟨[a], rfl, ?_⟩
        refine lc_I [a] (f := fun x => natD (sz.getD (numD x) 0)) rfl (by show 1 ≤ sizeLine; omega) (fun q hq Kt Kf hk => ?_) ?_
        · obtain rfl := List.mem_singleton.mp hq
          dsimp only [wipeD, List.set_cons_succ, List.set_cons_zero]
          walk_at "w"
          rw [h1]
          exact seq_ix hn hgs hk
        have hss : ∀ s ∈ [sz.getD (numD a) 0], 0 < s := fun s hs => by rw [List.mem_singleton.mp hs]; exact hp1
        refine ⟨b, [sz.getD (numD a) 0], rfl, .inl rfl, hss, hb2, ?_⟩
        have : (lineD sz (.tup [.str "wire", a, b])).map (sizeCL w) = tabSz [sz.getD (numD a) 0] b := by
          simp only [lineD, tabSz, e3, true_and]
          by_cases q : tableB (sz.getD (numD a) 0) b = true
          · rw [if_pos q, if_pos q]; rfl
          · rw [if_neg q, if_neg q]; rfl
        rw [this] at k
        exact rt_here optN_below k
  by_cases z7 : z = "join"
  · subst z7
    match r, hx, k, kn, hxl with
    | [], _, k, kn, _ =>
      walk_at "w"
      refine key_in hzs ?_
      walk_at "w"
      exact kn (line0 (by decide))
    | [a], hx, k, kn, _ =>
      walk_at "w"
      refine key_in hzs ?_
      walk_at "w"
      exact kn (line1 (by decide))
    | [a, b], _, k, kn, _ =>
      walk_at "w"
      refine key_in hzs ?_
      walk_at "w"
      exact kn (line2 (by decide))
    | a :: b :: c :: d :: r, _, k, kn, hxl =>
      walk_at "w"
      refine key_in hzs ?_
      walk_at "w"
      exact kn line4
    | [a, b, c], hx, k, kn, _ =>
      have ha := deep_kind (hx a (by simp))
      have hb := deep_kind (hx b (by simp))
      have hc2 := hx c (by simp)
      walk_at "w"
      refine key_in hzs ?_
      walk_at "w"
      have hc : cutD [.str "join", a, b, c] (some 1) (some (-1)) = [a, b] := rfl
      rw [hc]
      refine ⟨[a, b], rfl, ?_⟩
      have hlen : ∀ {D : KE}, D (natD sz.length) S → gLen [sd] S D := fun h => seq_len hn h
      refine lc_I [a, b] (f := fun x => .bl (isNumB 0 ((sz.length : Int) - 1) x)) rfl (by show 2 ≤ sizeLine; omega) (fun q hq Kt Kf hk => ?_) ?_
      · have hq : okKind S q := by
          rcases List.mem_cons.mp hq with rfl | hq
          · exact ha
          · rw [List.mem_singleton.mp hq]; exact hb
        dsimp only [wipeD, List.set_cons_succ, List.set_cons_zero]
        walk_at "w"
        refine hlen ?_
        walk_at "w"
        exact num_of hq hk
      walk_at "w"
      refine x_bools (bs := [isNumB 0 ((sz.length : Int) - 1) a, isNumB 0 ((sz.length : Int) - 1) b]) rfl ?_
      walk_at "w"
      cases e3 : isNumB 0 ((sz.length : Int) - 1) a with
      | false =>
        walk_at "w"
        refine kn ?_
        cases c <;> simp [lineD, e3]
      | true =>
      cases e4 : isNumB 0 ((sz.length : Int) - 1) b with
      | false =>
        walk_at "w"
        refine kn ?_
        cases c <;> simp [lineD, e4]
      | true =>
        obtain ⟨h1, h2⟩ := num_b e3
        obtain ⟨h3, h4⟩ := num_b e4
        have hgs := getD_some h2
        have hgt := getD_some h4
        obtain ⟨hp1, hp2⟩ := hp _ (List.mem_of_getElem? hgs)
        obtain ⟨hp3, hp4⟩ := hp _ (List.mem_of_getElem? hgt)
        walk_at "w"
        refine x_ixL (xs := [.str "join", a, b, c]) rfl (d := c) rfl ?_
        walk_at "w"
        rw [hc]
        refine ⟨[a, b], rfl, ?_⟩
        refine lc_I [a, b] (f := fun x => natD (sz.getD (numD x) 0)) rfl (by show 2 ≤ sizeLine; omega) (fun q hq Kt Kf hk => ?_) ?_
        · have hq : q = natD (numD q) ∧ sz[numD q]? = some (sz.getD (numD q) 0) := by
            rcases List.mem_cons.mp hq with rfl | hq
            · exact ⟨h1, hgs⟩
            · rw [List.mem_singleton.mp hq]; exact ⟨h3, hgt⟩
          dsimp only [wipeD, List.set_cons_succ, List.set_cons_zero]
          walk_at "w"
          rw [hq.1]
          exact seq_ix hn hq.2 hk
        have hss : ∀ s ∈ [sz.getD (numD a) 0, sz.getD (numD b) 0], 0 < s := fun s hs => by
          rcases List.mem_cons.mp hs with rfl | hs
          · exact hp1
          · rw [List.mem_singleton.mp hs]; exact hp3
        refine ⟨c, [sz.getD (numD a) 0, sz.getD (numD b) 0], rfl, .inr rfl, hss, hc2, ?_⟩
        have : (lineD sz (.tup [.str "join", a, b, c])).map (sizeCL w) = tabSz [sz.getD (numD a) 0, sz.getD (numD b) 0] c := by
          cases c with
          | tup rs =>
            simp only [lineD, tabSz, e3, e4, true_and, if_true]
            by_cases q : rs.length = sz.getD (numD a) 0 ∧ rs.all (tableB (sz.getD (numD b) 0)) = true
            · rw [if_pos q, if_pos q]
              show some (maxN ((rs.map rowD).map maxN) + 1) = _
              rw [List.map_map]; rfl
            · rw [if_neg q, if_neg q]; rfl
          | _ => rfl
        rw [this] at k
        exact rt_here optN_below k
  have hkey : ∀ n, decide ((z = "wire" ∧ n = 3) ∨ (z = "join" ∧ n = 4)) = false := fun n => decide_eq_false fun h => h.elim (fun h => z6 h.1) fun h => z7 h.1
  match r, hx, k, kn, hxl with
  | [], _, k, kn, _ =>
    walk_at "w"
    refine x_iteF2 hn1 ?_
    walk_at "w"
    refine x_iteF2 hn2 ?_
    walk_at "w"
    refine x_iteF2 hany ?_
    walk_at "w"
    refine key_in hzs ?_
    walk_at "w"
    refine x_iteF2 (hkey _) ?_
    walk_at "w"
    exact kn (line0 z2)
  | [a], hx, k, kn, _ =>
    walk_at "w"
    refine x_iteF2 hn1 ?_
    walk_at "w"
    refine x_iteF2 hn2 ?_
    walk_at "w"
    refine x_iteF2 hany ?_
    walk_at "w"
    refine key_in hzs ?_
    walk_at "w"
    refine x_iteF2 (hkey _) ?_
    walk_at "w"
    exact kn (line1 z1)
  | [a, b], _, k, kn, _ =>
    walk_at "w"
    refine x_iteF2 hn1 ?_
    walk_at "w"
    refine x_iteF2 hn2 ?_
    walk_at "w"
    refine x_iteF2 hany ?_
    walk_at "w"
    refine key_in hzs ?_
    walk_at "w"
    refine x_iteF2 (hkey _) ?_
    walk_at "w"
    exact kn (line2 z6)
  | [a, b, c], _, k, kn, _ =>
    walk_at "w"
    refine x_iteF2 hn1 ?_
    walk_at "w"
    refine x_iteF2 hn2 ?_
    walk_at "w"
    refine x_iteF2 hany ?_
    walk_at "w"
    refine key_in hzs ?_
    walk_at "w"
    refine x_iteF2 (hkey _) ?_
    walk_at "w"
    exact kn (line3 z7 z4 z5)
  | a :: b :: c :: d :: r, _, k, kn, hxl =>
    walk_at "w"
    refine x_iteF2 hn1 ?_
    walk_at "w"
    refine x_iteF2 hn2 ?_
    walk_at "w"
    refine x_iteF2 hany ?_
    walk_at "w"
    refine key_in hzs ?_
    walk_at "w"
    refine x_iteF2 (hkey _) ?_
    walk_at "w"
    exact kn line4
end DL
namespace DL
open PySem L2
local macro_rules | `(tactic| walk_at "sm") => `(tactic| (repeat (first | exact same_str | exact same_int | exact same_non | exact same_bl | ((with_reducible refine same_tA ?_ ?_); · rfl) | ((with_reducible refine same_lA ?_ ?_); · rfl) | with_reducible exact All2.nil | with_reducible refine All2.cons ?_ ?_ | with_reducible assumption)))
local macro_rules | `(tactic| walk_at "p") => `(tactic| (repeat (first | with_reducible refine ma_and (by assumption) ?_ | ((with_reducible refine And.intro ?_ ?_); (next => first | with_reducible assumption | rfl | decide | omega)) | with_reducible apply Exists.intro)))
local macro_rules | `(tactic| walk_at "w") => `(tactic| (repeat (first
  | with_reducible refine Step.h ?_ | ((with_reducible refine x_putL ?_ ?_); · rfl) | ((with_reducible refine x_name ?_ ?_); · exact of_decide_eq_true rfl) | ((with_reducible refine x_gtup ?_ ?_); · rfl) | ((with_reducible refine x_szL ?_ ?_); · rfl) | dsimp only [List.set_cons_succ, List.set_cons_zero]
  | ((with_reducible refine Open.h ?_); (repeat (first | with_reducible refine ma_and (by assumption) ?_ | ((with_reducible refine And.intro ?_ ?_); (next => first | with_reducible assumption | rfl | decide | omega)) | with_reducible apply Exists.intro))) | ((with_reducible refine x_is ?_ ?_); · rfl) | ((with_reducible refine x_isnot ?_ ?_); · rfl) | ((with_reducible refine x_isiD ?_ ?_ ?_); (next => rfl); (next => decide)) | ((with_reducible refine x_isiD2 ?_ ?_ ?_ ?_); (next => rfl); (next => decide); (next => decide))
  | ((with_reducible refine x_inTi ?_ ?_); · rfl) | ((with_reducible refine x_inTn ?_ ?_); · rfl) | ((with_reducible refine x_iteT2 ?_ ?_); · rfl) | ((with_reducible refine x_iteF2 ?_ ?_); · rfl) | (with_reducible first | refine mg_ma (by assumption) (by decide +kernel) ?_ | refine mg_ma1 (by assumption) (by decide +kernel) ?_ | refine pg_ma (by assumption) ?_ | refine pg_ma1 (by assumption) ?_ | refine fg_al (by assumption) ?_ | refine fg_rows (by assumption) ?_ | refine fg_start (by assumption) ?_) | ((with_reducible refine o_law_same ?_ ?_); (next => (repeat (first | exact same_str | exact same_int | exact same_non | exact same_bl | ((with_reducible refine same_tA ?_ ?_); · rfl) | ((with_reducible refine same_lA ?_ ?_); · rfl) | with_reducible exact All2.nil | with_reducible refine All2.cons ?_ ?_ | with_reducible assumption)); done))
  | ((with_reducible refine rt_here ?_ ?_); (next => first | ((simp only [below, nats_below', encRow]); done) | with_reducible assumption)) | (with_reducible refine nx_here ?_) | rw [cutD_one])))
theorem gd {vals : List Nat} {r v : Nat} (h : vals[r]? = some v) : vals.getD r 0 = v := by simp [List.getD, h]
theorem r_changed {KF : PySem.W.Frag} {ds S K X} (h : sp_changed KF ds S K X) (hb : belows S.length ds) (hS : belows S.length S) : u_changed KF (endsOf S K X) (startD ["line", "side", "value"] ds) S := by
  have szl : sizeLine = 16777216 := rfl
  obtain ⟨l, x, v, rfl, hc, h0, k⟩ := h
  show u_changed KF (endsOf S K X) [some (encCL l), some (natD x), some (natD v)] S
  unfold u_changed
  have hv : decide ((v : Int) = 0) = decide (v = 0) := decide_eq_decide.mpr (by omega)
  cases l with
  | latch n f r =>
    show (uSeq _ _) (endsOf S K X) [some (.tup [.str "latch", natD n, natD f, natD r]), _, _] S
    walk_at "w"
    rw [hv]
    refine x_ite (fun e => ?_) (fun e => ?_)
    · walk_at "w"
      have : changedL (.latch n f r) x v = x := if_pos (of_decide_eq_true e)
      rw [this] at k; exact k
    · have e := of_decide_eq_false e
      walk_at "w"
      have : changedL (.latch n f r) x v = v - 1 := if_neg e
      rw [this] at k
      rw [show ((v : Int) - 1) = ((v - 1 : Nat) : Int) by omega]
      exact k
  | counter p f r =>
    show (uSeq _ _) (endsOf S K X) [some (.tup [.str "counter", natD p, natD f, natD r]), _, _] S
    have hp : 0 < p := h0
    walk_at "w"
    refine x_mod (by omega) ?_
    walk_at "w"
    rw [show ((x : Int) + (v : Int)) % (p : Int) = (((x + v) % p : Nat) : Int) by rw [Int.natCast_emod, Int.natCast_add]]
    exact k
  | _ => cases hc
theorem r_Circuit_value_of {KF : PySem.W.Frag} {ds S K X} (h : sp_Circuit_value_of KF ds S K X) (hb : belows S.length ds) (hS : belows S.length S) : u_Circuit_value_of KF (endsOf S K X) (startD ["self", "line", "values", "letter", "found", "ref"] ds) S := by
  have szl : sizeLine = 16777216 := rfl
  obtain ⟨d, vd, l, vals, c, rfl, hc, hn, hw, hj, k⟩ := h
  show u_Circuit_value_of KF (endsOf S K X) [some d, some (encCL l), some vd, some (natD c), none, none] S
  unfold u_Circuit_value_of
  cases l with
  | const n =>
    show (uSeq _ _) (endsOf S K X) [_, some (.tup [.str "const", natD n]), _, _, _, _] S
    walk_at "w"
    exact k
  | letter =>
    show (uSeq _ _) (endsOf S K X) [_, some (.tup [.str "letter"]), _, _, _, _] S
    walk_at "w"
    exact k
  | wire r t =>
    obtain ⟨v, hv, hvt⟩ := hw r t rfl
    have hval : valueL (.wire r t) vals c = t.getD v 0 := by show t.getD (vals.getD r 0) 0 = _; rw [gd hv]
    rw [hval] at k
    show (uSeq _ _) (endsOf S K X) [_, some (.tup [.str "wire", natD r, encRow t]), _, _, _, _] S
    walk_at "w"
    refine x_ixL (xs := [.str "wire", natD r, encRow t]) rfl (d := encRow t) rfl ?_
    walk_at "w"
    rw [show cutD [.str "wire", natD r, encRow t] (some 1) (some (-1)) = [natD r] from rfl]
    refine ⟨[natD r], rfl, ?_⟩
    refine for_T [r] (fun n : Nat => natD n) (fun pre dl1 S2 => S2 = S ∧ ∃ x5, dl1 = [some d, some (encCL (.wire r t)), some vd, some (natD c), some (if pre = [] then encRow t else natD (t.getD v 0)), x5]) ⟨rfl, _, rfl⟩ ?_ ?_ ?_
    · rintro pre dl1 S2 ⟨rfl, _⟩; rfl
    · rintro pre a rest dl1 S2 hx ⟨rfl, x5, rfl⟩
      obtain ⟨rfl, rfl, rfl⟩ : pre = [] ∧ a = r ∧ rest = [] := by
        cases pre with
        | nil => cases hx; exact ⟨rfl, rfl, rfl⟩
        | cons _ q => cases q <;> cases hx
      rw [if_pos rfl]
      walk_at "w"
      refine seq_ix hn hv ?_
      walk_at "w"
      refine seq_ix (ns := t) rfl (r := v) (x := t.getD v 0) (getD_some hvt) ?_
      walk_at "w"
      exact .inl ⟨rfl, _, rfl⟩
    · rintro dl1 S2 ⟨rfl, x5, rfl⟩
      rw [if_neg (by simp)]
      walk_at "w"
      exact k
  | join r q t =>
    obtain ⟨v, u, hv, hu, hvt, hut⟩ := hj r q t rfl
    have hrow : u < (t.getD v []).length := hut _ (by rw [List.getD, List.getElem?_eq_getElem hvt]; exact List.getElem_mem hvt)
    have hval : valueL (.join r q t) vals c = (t.getD v []).getD u 0 := by
      show (t.getD (vals.getD r 0) []).getD (vals.getD q 0) 0 = _
      rw [gd hv, gd hu]
    rw [hval] at k
    show (uSeq _ _) (endsOf S K X) [_, some (.tup [.str "join", natD r, natD q, .tup (t.map encRow)]), _, _, _, _] S
    walk_at "w"
    refine x_ixL (xs := [.str "join", natD r, natD q, .tup (t.map encRow)]) rfl (d := .tup (t.map encRow)) rfl ?_
    walk_at "w"
    rw [show cutD [.str "join", natD r, natD q, .tup (t.map encRow)] (some 1) (some (-1)) = [natD r, natD q] from rfl]
    refine ⟨[natD r, natD q], rfl, ?_⟩
    refine for_T [r, q] (fun n : Nat => natD n) (fun pre dl1 S2 => S2 = S ∧ ∃ x5, dl1 = [some d, some (encCL (.join r q t)), some vd, some (natD c), some (match pre.length with | 0 => .tup (t.map encRow) | 1 => encRow (t.getD v []) | _ => natD ((t.getD v []).getD u 0)), x5]) ⟨rfl, _, rfl⟩ ?_ ?_ ?_
    · rintro pre dl1 S2 ⟨rfl, _⟩; rfl
    · rintro pre a rest dl1 S2 hx ⟨rfl, x5, rfl⟩
      match pre, hx with
      | [], hx =>
        cases hx
        show uName 5 (natD r) [_, _, _, _, some (.tup (t.map encRow)), x5] S2 _ _
        walk_at "w"
        refine seq_ix hn hv ?_
        walk_at "w"
        refine x_ixn (xs := t.map encRow) rfl (y := encRow (t.getD v [])) (by rw [List.getElem?_map, List.getD, List.getElem?_eq_getElem hvt]; rfl) ?_
        walk_at "w"
        exact .inl ⟨rfl, _, rfl⟩
      | [p0], hx =>
        cases hx
        show uName 5 (natD q) [_, _, _, _, some (encRow (t.getD v [])), x5] S2 _ _
        walk_at "w"
        refine seq_ix hn hu ?_
        walk_at "w"
        refine seq_ix (ns := t.getD v []) rfl (getD_some hrow) ?_
        walk_at "w"
        exact .inl ⟨rfl, _, rfl⟩
      | p0 :: p1 :: p2, hx => exact absurd (congrArg List.length hx) (by simp)
    · rintro dl1 S2 ⟨rfl, x5, rfl⟩
      show (uRet _) _ [_, _, _, _, some (natD ((t.getD v []).getD u 0)), x5] S2
      walk_at "w"
      exact k
  | _ => cases hc
theorem cells_at {ls : List CL} {i : Nat} (h : i ∈ cellsOf ls) : ∃ l, ls[i]? = some l ∧ isCell l = true := by
  obtain ⟨⟨l, j⟩, hm, rfl⟩ := List.mem_map.mp h
  obtain ⟨h1, h2⟩ := List.mem_filter.mp hm
  have := List.mem_zipIdx_iff_getElem?.mp h1
  exact ⟨l, this, h2⟩
theorem cells_map {β : Type} (f : Nat → β) (g : CL → β) : ∀ (ls : List CL) (k : Nat), (∀ (i : Nat) l, ls[i]? = some l → isCell l = true → f (k + i) = g l) → (((ls.zipIdx k).filter fun p => isCell p.1).map (·.2)).map f = (ls.filter isCell).map g
  | [], _, _ => rfl
  | l :: ls, k, h => by
    have ih := cells_map f g ls (k + 1) fun i m hm hc => by rw [show k + 1 + i = k + (i + 1) by omega]; exact h (i + 1) m (by simpa using hm) hc
    rw [List.zipIdx_cons, List.filter_cons, List.filter_cons]
    cases hc : isCell l with
    | true => simp only [if_true, List.map_cons]; rw [ih, show f k = g l from h 0 l (by simp) hc]
    | false => simp only [Bool.false_eq_true, if_false]; exact ih
theorem pack_first : ∀ ls : List CL, pack ls (firstF ls) = (ls.filter isCell).map firstCL
  | [] => rfl
  | l :: ls => by
    have ih := pack_first ls
    unfold pack firstF at ih ⊢
    rw [List.map_cons, List.zip_cons_cons, List.filter_cons, List.filter_cons]
    cases hc : isCell l with
    | true => simp only [if_true, List.map_cons]; rw [ih]
    | false => simp only [Bool.false_eq_true, if_false]; exact ih
theorem cell_ix {S : Store} {K : KE} {l : CL} (hc : isCell l = true) (k : K (natD (firstCL l)) S) : gIx (encCL l) (.int 2) S K := by
  cases l with
  | latch n f r => exact x_ixt2 k
  | counter n f r => exact x_ixt2 k
  | _ => cases hc
theorem cell_ix3 {S : Store} {K : KE} {l : CL} (hc : isCell l = true) (k : K (natD (refCL l)) S) : gIx (encCL l) (.int 3) S K := by
  cases l with
  | latch n f r => exact x_ixt3 k
  | counter n f r => exact x_ixt3 k
  | _ => cases hc
theorem cells_len (ls : List CL) : (cellsOf ls).length ≤ ls.length := by
  unfold cellsOf
  rw [List.length_map]
  have := List.length_filter_le (fun p : CL × Nat => isCell p.1) (ls.zipIdx 0)
  rwa [List.length_zipIdx] at this
theorem fg_ci {KF : PySem.W.Frag} {S : Store} {d : Dat} {a : Str} {ls : List CL} {f : Str} {x : Dat} {P : Dat → Prop} (ci : isCi KF S d a ls) (hf : (cirNs.zip [.str a, .lst (ls.map encCL), .lst (natDs (szOf a.length ls)), .lst ((lkOf ls).map Dat.bl), .lst (natDs (cellsOf ls))]).lookup f = some x) (k : P x) : ∃ C ns xs x, C ∈ [He.ga KF "Circuit"] ∧ insD S d = some (C, ns, xs) ∧ (ns.zip xs).lookup f = some x ∧ P x := ⟨_, _, _, _, List.mem_cons_self, ci.ins, hf, k⟩
theorem mg_ci {KF : PySem.W.Frag} {S : Store} {d : Dat} {a : Str} {ls : List CL} {F : Spec} {m : Str} {P : Spec → Prop} (ci : isCi KF S d a ls) (hm : m ∉ cirNs) (k : P F) : ∃ C ns xs F', insD S d = some (C, ns, xs) ∧ m ∉ ns ∧ (C, F') ∈ [(He.ga KF "Circuit", F)] ∧ P F' := ⟨_, _, _, _, ci.ins, hm, List.mem_cons_self, k⟩
theorem r_Circuit_first_sides {KF : PySem.W.Frag} {ds S K X} (h : sp_Circuit_first_sides KF ds S K X) (hb : belows S.length ds) (hS : belows S.length S) : u_Circuit_first_sides KF (endsOf S K X) (startD ["self", "at"] ds) S := by
  have szl : sizeLine = 16777216 := rfl
  obtain ⟨d, a, ls, rfl, ci, k⟩ := h
  have hcl := cells_len ls
  have hm := ci.most
  show u_Circuit_first_sides KF (endsOf S K X) [some d, none] S
  unfold u_Circuit_first_sides
  walk_at "w"
  refine fg_ci ci rfl ?_
  refine ⟨natDs (cellsOf ls), rfl, ?_⟩
  refine lc_M (cellsOf ls) (fun n : Nat => natD n) (f := fun i => natD (firstCL (ls.getD i .letter))) rfl (by omega) (fun i hi Kt Kf hk => ?_) ?_
  · dsimp only [wipeD, List.set_cons_succ, List.set_cons_zero]
    obtain ⟨l, hl, hc⟩ := cells_at hi
    have e : ls.getD i .letter = l := by simp [List.getD, hl]
    rw [e] at hk
    walk_at "w"
    refine fg_ci ci rfl ?_
    walk_at "w"
    refine x_ixn (xs := ls.map encCL) rfl (y := encCL l) (by rw [List.getElem?_map, hl]; rfl) ?_
    exact cell_ix hc hk
  walk_at "w"
  refine x_tuple rfl ?_
  walk_at "w"
  have : ((cellsOf ls).map fun i => natD (firstCL (ls.getD i .letter))) = natDs (pack ls (firstF ls)) := by
    rw [pack_first]
    show _ = List.map (fun n : Nat => Dat.int (n : Int)) (List.map firstCL _)
    rw [List.map_map]
    exact cells_map _ _ ls 0 fun i l hl _ => by
      show natD (firstCL (ls.getD (0 + i) .letter)) = natD (firstCL l)
      rw [Nat.zero_add, List.getD, hl]; rfl
  refine rt_here ?_ ?_
  · rw [this]; simp only [below]; exact nats_below' _
  · rw [this]; exact k
end DL
namespace DL
open PySem L2
local macro_rules | `(tactic| walk_at "sm") => `(tactic| (repeat (first | exact same_str | exact same_int | exact same_non | exact same_bl | ((with_reducible refine same_tA ?_ ?_); · rfl) | ((with_reducible refine same_lA ?_ ?_); · rfl) | with_reducible exact All2.nil | with_reducible refine All2.cons ?_ ?_ | with_reducible assumption)))
local macro_rules | `(tactic| walk_at "p") => `(tactic| (repeat (first | with_reducible refine ma_and (by assumption) ?_ | ((with_reducible refine And.intro ?_ ?_); (next => first | with_reducible assumption | rfl | decide | omega)) | with_reducible apply Exists.intro)))
local macro_rules | `(tactic| walk_at "w") => `(tactic| (repeat (first
  | with_reducible refine Step.h ?_ | ((with_reducible refine x_putL ?_ ?_); · rfl) | ((with_reducible refine x_name ?_ ?_); · exact of_decide_eq_true rfl) | ((with_reducible refine x_gtup ?_ ?_); · rfl) | ((with_reducible refine x_szL ?_ ?_); · rfl) | dsimp only [List.set_cons_succ, List.set_cons_zero]
  | ((with_reducible refine Open.h ?_); (repeat (first | with_reducible refine ma_and (by assumption) ?_ | ((with_reducible refine And.intro ?_ ?_); (next => first | with_reducible assumption | rfl | decide | omega)) | with_reducible apply Exists.intro))) | ((with_reducible refine x_is ?_ ?_); · rfl) | ((with_reducible refine x_isnot ?_ ?_); · rfl) | ((with_reducible refine x_isiD ?_ ?_ ?_); (next => rfl); (next => decide)) | ((with_reducible refine x_isiD2 ?_ ?_ ?_ ?_); (next => rfl); (next => decide); (next => decide))
  | ((with_reducible refine x_inTi ?_ ?_); · rfl) | ((with_reducible refine x_inTn ?_ ?_); · rfl) | ((with_reducible refine x_iteT2 ?_ ?_); · rfl) | ((with_reducible refine x_iteF2 ?_ ?_); · rfl) | (with_reducible first | refine mg_ma (by assumption) (by decide +kernel) ?_ | refine mg_ma1 (by assumption) (by decide +kernel) ?_ | refine pg_ma (by assumption) ?_ | refine pg_ma1 (by assumption) ?_ | refine fg_al (by assumption) ?_ | refine fg_rows (by assumption) ?_ | refine fg_start (by assumption) ?_) | ((with_reducible refine o_law_same ?_ ?_); (next => (repeat (first | exact same_str | exact same_int | exact same_non | exact same_bl | ((with_reducible refine same_tA ?_ ?_); · rfl) | ((with_reducible refine same_lA ?_ ?_); · rfl) | with_reducible exact All2.nil | with_reducible refine All2.cons ?_ ?_ | with_reducible assumption)); done))
  | ((with_reducible refine rt_here ?_ ?_); (next => first | ((simp only [below, nats_below', encRow]); done) | with_reducible assumption)) | (with_reducible refine nx_here ?_) | rw [cutD_one])))
theorem valsG_app (c : Nat) (ms : List CL) (fm : List Nat) : ∀ (ls : List CL) (acc full : List Nat), full.length = ls.length → valsG (ls ++ ms) acc (full ++ fm) c = valsG ms (valsG ls acc full c) fm c
  | [], acc, [], _ => rfl
  | l :: ls, acc, x :: full, h => by
    show valsG (ls ++ ms) _ ((x :: full) ++ fm).tail c = _
    exact valsG_app c ms fm ls _ full (by simpa using h)
  | [], _, _ :: _, h => by simp at h
  | _ :: _, _, [], h => by simp at h
theorem valsF_snoc {c x : Nat} {pre : List CL} {l : CL} {fp : List Nat} (h : fp.length = pre.length) : valsF (pre ++ [l]) (fp ++ [x]) c = valsF pre fp c ++ [if isCell l then x else valueL l (valsF pre fp c) c] := by
  unfold valsF
  rw [valsG_app c [l] [x] pre [] fp h]; rfl
theorem pack_app {ms : List CL} {fm : List Nat} {ls : List CL} {full : List Nat} (h : full.length = ls.length) : pack (ls ++ ms) (full ++ fm) = pack ls full ++ pack ms fm := by
  unfold pack
  rw [List.zip_append h.symm, List.filter_append, List.map_append]
theorem pack_cons {l : CL} {x : Nat} {ls : List CL} {full : List Nat} : pack (l :: ls) (x :: full) = if isCell l then x :: pack ls full else pack ls full := by
  unfold pack
  rw [List.zip_cons_cons, List.filter_cons]
  cases hc : isCell l with
  | true => simp only [if_true, List.map_cons]
  | false => simp only [Bool.false_eq_true, if_false]
/-- values below the sizes -/
def lowV (w : Nat) (ls : List CL) (vals : List Nat) : Prop := ∀ (i : Nat) v, vals[i]? = some v → ∃ s, (szOf w ls)[i]? = some s ∧ v < s
theorem maxN_lt {xs : List Nat} {i : Nat} (h : i < xs.length) : xs.getD i 0 < maxN xs + 1 := by
  have := le_maxN (List.getElem_mem h)
  rw [List.getD, List.getElem?_eq_getElem h]
  show xs[i] < _
  omega
theorem at_take {sz : List Nat} {k r m : Nat} (h : (sz.take k)[r]? = some m) : r < k ∧ sz[r]? = some m := by
  rw [List.getElem?_take] at h
  split at h
  · exact ⟨by assumption, h⟩
  · cases h
theorem value_ok {w c k : Nat} {ls : List CL} {l : CL} {vals : List Nat} (hc : c < w) (hl : ls[k]? = some l) (ok : okCL ((szOf w ls).take k) l) (lv : lowV w ls vals) (hv : vals.length = k) (hn : isCell l = false) :
    (∀ r t, l = .wire r t → ∃ v, vals[r]? = some v ∧ v < t.length) ∧ (∀ r q t, l = .join r q t → ∃ v u, vals[r]? = some v ∧ vals[q]? = some u ∧ v < t.length ∧ ∀ row ∈ t, u < row.length) ∧ valueL l vals c < sizeCL w l := by
  have get : ∀ r m, ((szOf w ls).take k)[r]? = some m → ∃ v, vals[r]? = some v ∧ v < m := fun r m h => by
    obtain ⟨h1, h2⟩ := at_take h
    have hr : vals[r]? = some (vals[r]'(by omega)) := List.getElem?_eq_getElem (by omega)
    obtain ⟨s, h3, h4⟩ := lv r _ hr
    rw [h2] at h3; cases h3
    exact ⟨_, hr, h4⟩
  cases l with
  | const n => exact ⟨(fun _ _ h => by cases h), (fun _ _ _ h => by cases h), (by show n < n + 1; omega)⟩
  | letter => exact ⟨(fun _ _ h => by cases h), (fun _ _ _ h => by cases h), hc⟩
  | wire r t =>
    obtain ⟨h1, h2, h3⟩ := ok
    obtain ⟨v, hv1, hv2⟩ := get r _ h1
    refine ⟨(fun _ _ h => by cases h; exact ⟨v, hv1, hv2⟩), (fun _ _ _ h => by cases h), ?_⟩
    show t.getD (vals.getD r 0) 0 < maxN t + 1
    rw [gd hv1]; exact maxN_lt hv2
  | join r q t =>
    obtain ⟨h1, h2, m, h3, h4, h5⟩ := ok
    obtain ⟨v, hv1, hv2⟩ := get r _ h1
    obtain ⟨u, hu1, hu2⟩ := get q _ h3
    refine ⟨(fun _ _ h => by cases h), (fun _ _ _ h => by cases h; exact ⟨v, u, hv1, hu1, hv2, fun row hr => by rw [(h5 row hr).1]; exact hu2⟩), ?_⟩
    show (t.getD (vals.getD r 0) []).getD (vals.getD q 0) 0 < maxN (t.map maxN) + 1
    rw [gd hv1, gd hu1]
    have e : t.getD v [] = t[v] := by rw [List.getD, List.getElem?_eq_getElem hv2]; rfl
    rw [e]
    have hm := List.getElem_mem hv2
    have h6 := maxN_lt (xs := t[v]) (i := u) (by rw [(h5 _ hm).1]; exact hu2)
    have h7 := le_maxN (xs := t.map maxN) (List.mem_map.mpr ⟨_, hm, rfl⟩)
    omega
  | latch n f r => cases hn
  | counter n f r => cases hn
theorem okCs_pre {w : Nat} {pre rest : List CL} (h : okCs w (pre ++ rest)) : okCs w pre := fun i l e => by
  have hi := (List.getElem?_eq_some_iff.mp e).1
  have := h i l (by rw [List.getElem?_append_left hi]; exact e)
  unfold szOf at this ⊢
  rw [List.map_append, List.take_append_of_le_length (by rw [List.length_map]; omega)] at this
  exact this
theorem okFull_pre {w : Nat} {pre rest : List CL} {fp fr : List Nat} (h : okFull w (pre ++ rest) (fp ++ fr)) (hl : fp.length = pre.length) : okFull w pre fp := ⟨hl, fun i l x e1 e2 => h.2 i l x (by rw [List.getElem?_append_left (List.getElem?_eq_some_iff.mp e1).1]; exact e1) (by rw [List.getElem?_append_left (List.getElem?_eq_some_iff.mp e2).1]; exact e2)⟩
theorem vals_low {w c : Nat} (hc : c < w) {ALL : List CL} (ok : okCs w ALL) : ∀ (ls : List CL) (pre : List CL) (acc full : List Nat), ALL = pre ++ ls → acc.length = pre.length → lowV w ALL acc → full.length = ls.length → (∀ (i : Nat) l x, ls[i]? = some l → full[i]? = some x → if isCell l then x < sizeCL w l else x = 0) →
    (valsG ls acc full c).length = ALL.length ∧ lowV w ALL (valsG ls acc full c)
  | [], pre, acc, full, e, hl, lv, _, _ => by
    rw [List.append_nil] at e
    subst e
    exact ⟨hl, lv⟩
  | l :: ls, pre, acc, [], e, hl, lv, hf, _ => by simp at hf
  | l :: ls, pre, acc, x :: full, e, hl, lv, hf, h => by
    have hk : ALL[pre.length]? = some l := by rw [e]; simp
    have hx := h 0 l x (by simp) (by simp)
    have hs : (szOf w ALL)[pre.length]? = some (sizeCL w l) := by unfold szOf; rw [List.getElem?_map, hk]; rfl
    refine vals_low hc ok ls (pre ++ [l]) _ full (by rw [e]; simp) (by simp [hl]) ?_ (by simpa using hf) fun i m y e1 e2 => h (i + 1) m y (by simpa using e1) (by simpa using e2)
    intro i v hv
    by_cases hi : i < acc.length
    · rw [List.getElem?_append_left hi] at hv; exact lv i v hv
    · rw [List.getElem?_append_right (by omega)] at hv
      have : i = acc.length := by
        have := (List.getElem?_eq_some_iff.mp hv).1
        simp at this; omega
      subst this
      rw [Nat.sub_self] at hv
      simp only [List.getElem?_cons_zero, Option.some.injEq] at hv
      refine ⟨_, by rw [hl]; exact hs, ?_⟩
      rw [← hv]
      cases hcl : isCell l with
      | true => rw [hcl] at hx; exact hx
      | false => exact (value_ok hc hk (ok _ _ hk) lv hl hcl).2.2
theorem valsF_low {w c : Nat} (hc : c < w) {ls : List CL} {full : List Nat} (ok : okCs w ls) (hf : okFull w ls full) : (valsF ls full c).length = ls.length ∧ lowV w ls (valsF ls full c) :=
  vals_low hc ok ls [] [] full rfl rfl (fun i v h => by cases h) hf.1 hf.2
theorem take_split {full : List Nat} {pre rest : List CL} {l : CL} (h : full.length = (pre ++ l :: rest).length) : ∃ fp x fr, full = fp ++ x :: fr ∧ fp.length = pre.length ∧ fr.length = rest.length := by
  have hl : pre.length < full.length := by rw [h]; simp
  refine ⟨full.take pre.length, full[pre.length], full.drop (pre.length + 1), ?_, by rw [List.length_take]; omega, by rw [List.length_drop, h]; simp; omega⟩
  rw [List.getElem_cons_drop hl, List.take_append_drop]
theorem ins_app {S R : Store} {d : Dat} {r : Addr × List Str × List Dat} (h : insD S d = some r) : insD (S ++ R) d = some r := by
  cases d with
  | cell n =>
    simp only [insD] at h ⊢
    have hn : n < S.length := by
      apply Classical.byContradiction
      intro hn
      rw [List.getElem?_eq_none (by omega)] at h
      cases h
    rw [List.getElem?_append_left hn]; exact h
  | ins C ns xs => exact h
  | _ => cases h
theorem isCi.app {KF : PySem.W.Frag} {S R : Store} {d : Dat} {a : Str} {ls : List CL} (h : isCi KF S d a ls) : isCi KF (S ++ R) d a ls := ⟨ins_app h.ins, h.al, h.ok, h.pos, h.most⟩
theorem seq_app {S R : Store} {d : Dat} {xs : List Dat} (h : seqD S d = some xs) : seqD (S ++ R) d = some xs := by
  cases d with
  | cell n =>
    simp only [seqD] at h ⊢
    have hn : n < S.length := by
      apply Classical.byContradiction
      intro hn
      rw [List.getElem?_eq_none (by omega)] at h
      cases h
    rw [List.getElem?_append_left hn]; exact h
  | tup ys => exact h
  | lst ys => exact h
  | _ => cases h
theorem natDs_snoc {ns : List Nat} {x : Nat} : natDs (ns ++ [x]) = natDs ns ++ [natD x] := by simp
theorem r_Circuit_line_values {KF : PySem.W.Frag} {ds S K X} (h : sp_Circuit_line_values KF ds S K X) (hb : belows S.length ds) (hS : belows S.length S) : u_Circuit_line_values KF (endsOf S K X) (startD ["self", "sides", "letter", "found", "at", "line"] ds) S := by
  have szl : sizeLine = 16777216 := rfl
  obtain ⟨d, sd, a, ls, full, c, rfl, ci, hn, hf, hc, k⟩ := h
  have hm := ci.most
  simp only [belows, below] at hb
  show u_Circuit_line_values KF (endsOf S K X) [some d, some sd, some (natD c), none, none, none] S
  unfold u_Circuit_line_values
  walk_at "w"
  refine fg_ci ci.app rfl ?_
  refine ⟨ls.map encCL, rfl, ?_⟩
  refine for_T ls encCL (fun pre dl1 S2 => ∃ fp fr x5, full = fp ++ fr ∧ fp.length = pre.length ∧ dl1 = [some d, some sd, some (natD c), some (.cell S.length), some (natD (pack pre fp).length), x5] ∧ S2 = S ++ [.lst (natDs (valsF pre fp c))]) ?_ ?_ ?_ ?_
  · exact ⟨[], full, _, rfl, rfl, rfl, rfl⟩
  · rintro pre dl1 S2 ⟨fp, fr, x5, _, _, rfl, rfl⟩; rfl
  · rintro pre l rest dl1 S2 hx ⟨fp, fr0, x5, hff, hfp, rfl, rfl⟩
    obtain ⟨fp', x, fr, hfull, hl1, hl2⟩ := take_split (full := full) (by rw [← hx]; exact hf.1)
    have e1 : fp = fp' ∧ fr0 = x :: fr := List.append_inj (hff.symm.trans hfull) (by omega)
    obtain ⟨rfl, rfl⟩ := e1
    have hpre := okFull_pre (by rw [hx, hff] at hf; exact hf) hfp
    have okp := okCs_pre (by have := ci.ok; rw [hx] at this; exact this)
    obtain ⟨v1, v2⟩ := valsF_low hc okp hpre
    have hlen : (valsF pre fp c).length < sizeLine := by
      rw [v1]
      have := congrArg List.length hx
      rw [List.length_append] at this
      omega
    have hk : (pre ++ l :: rest)[pre.length]? = some l := by simp
    have hseq : seqD (S ++ [.lst (natDs (valsF pre fp c))]) sd = some (natDs (pack ls full)) := seq_app hn
    cases hcl : isCell l with
    | true =>
      walk_at "w"
      rw [hcl]
      walk_at "w"
      refine ⟨isT_list st1a, ?_⟩
      walk_at "w"
      refine seq_ix hseq (x := x) (by rw [hx, hfull, pack_app hfp, pack_cons, hcl]; simp) ?_
      walk_at "w"
      refine x_append st1a (by rw [List.length_map]; exact hlen) ?_
      rw [st1sa]
      walk_at "w"
      refine .inl ⟨fp ++ [x], fr, some (encCL l), by rw [hfull]; simp, by simp [hfp], ?_, ?_⟩
      · rw [pack_app hfp, pack_cons, hcl]
        simp [pack]
      · rw [valsF_snoc hfp, hcl, natDs_snoc]; rfl
    | false =>
      obtain ⟨w1, w2, _⟩ := value_ok (ls := pre ++ l :: rest) hc hk (by have := ci.ok _ _ (by rw [hx]; exact hk); rw [hx] at this; exact this) (fun i v hv => by
        obtain ⟨s, h1, h2⟩ := v2 i v hv
        refine ⟨s, ?_, h2⟩
        unfold szOf at h1 ⊢
        rw [List.map_append, List.getElem?_append_left (List.getElem?_eq_some_iff.mp h1).1]; exact h1) v1 hcl
      walk_at "w"
      rw [hcl]
      walk_at "w"
      refine ⟨isT_list st1a, ?_⟩
      walk_at "w"
      refine mg_ci ci.app (by decide +kernel) ?_
      walk_at "w"
      refine ⟨show seqD _ _ = some (natDs (valsF pre fp c)) by simp only [seqD, st1a], w1, w2, ?_⟩
      walk_at "w"
      refine x_append st1a (by rw [List.length_map]; exact hlen) ?_
      rw [st1sa]
      walk_at "w"
      refine .inl ⟨fp ++ [x], fr, some (encCL l), by rw [hfull]; simp, by simp [hfp], ?_, ?_⟩
      · rw [pack_app hfp, pack_cons, hcl]
        simp [pack]
      · rw [valsF_snoc hfp, hcl, natDs_snoc]; rfl
  · rintro dl1 S2 ⟨fp, fr, x5, hff, hfp, rfl, rfl⟩
    have : fr = [] := by
      have h1 := congrArg List.length hff
      rw [List.length_append, hf.1, hfp] at h1
      exact List.length_eq_zero_iff.mp (by omega)
    subst this
    rw [List.append_nil] at hff
    subst hff
    walk_at "w"
    exact ⟨S, .lst (natDs (valsF ls full c)), ⟨⟨_, rfl⟩, Nat.le_refl _, .inl rfl⟩, .cell (Nat.le_refl _) st1a (.same (by simp only [below]; exact nats_below' _)), k⟩
end DL
namespace DL
open PySem L2
local macro_rules | `(tactic| walk_at "sm") => `(tactic| (repeat (first | exact same_str | exact same_int | exact same_non | exact same_bl | ((with_reducible refine same_tA ?_ ?_); · rfl) | ((with_reducible refine same_lA ?_ ?_); · rfl) | with_reducible exact All2.nil | with_reducible refine All2.cons ?_ ?_ | with_reducible assumption)))
local macro_rules | `(tactic| walk_at "p") => `(tactic| (repeat (first | with_reducible refine ma_and (by assumption) ?_ | ((with_reducible refine And.intro ?_ ?_); (next => first | with_reducible assumption | rfl | decide | omega)) | with_reducible apply Exists.intro)))
local macro_rules | `(tactic| walk_at "w") => `(tactic| (repeat (first
  | with_reducible refine Step.h ?_ | ((with_reducible refine x_putL ?_ ?_); · rfl) | ((with_reducible refine x_name ?_ ?_); · exact of_decide_eq_true rfl) | ((with_reducible refine x_gtup ?_ ?_); · rfl) | ((with_reducible refine x_szL ?_ ?_); · rfl) | dsimp only [List.set_cons_succ, List.set_cons_zero]
  | ((with_reducible refine Open.h ?_); (repeat (first | with_reducible refine ma_and (by assumption) ?_ | ((with_reducible refine And.intro ?_ ?_); (next => first | with_reducible assumption | rfl | decide | omega)) | with_reducible apply Exists.intro))) | ((with_reducible refine x_is ?_ ?_); · rfl) | ((with_reducible refine x_isnot ?_ ?_); · rfl) | ((with_reducible refine x_isiD ?_ ?_ ?_); (next => rfl); (next => decide)) | ((with_reducible refine x_isiD2 ?_ ?_ ?_ ?_); (next => rfl); (next => decide); (next => decide))
  | ((with_reducible refine x_inTi ?_ ?_); · rfl) | ((with_reducible refine x_inTn ?_ ?_); · rfl) | ((with_reducible refine x_iteT2 ?_ ?_); · rfl) | ((with_reducible refine x_iteF2 ?_ ?_); · rfl) | (with_reducible first | refine mg_ma (by assumption) (by decide +kernel) ?_ | refine mg_ma1 (by assumption) (by decide +kernel) ?_ | refine pg_ma (by assumption) ?_ | refine pg_ma1 (by assumption) ?_ | refine fg_al (by assumption) ?_ | refine fg_rows (by assumption) ?_ | refine fg_start (by assumption) ?_) | ((with_reducible refine o_law_same ?_ ?_); (next => (repeat (first | exact same_str | exact same_int | exact same_non | exact same_bl | ((with_reducible refine same_tA ?_ ?_); · rfl) | ((with_reducible refine same_lA ?_ ?_); · rfl) | with_reducible exact All2.nil | with_reducible refine All2.cons ?_ ?_ | with_reducible assumption)); done))
  | ((with_reducible refine rt_here ?_ ?_); (next => first | ((simp only [below, nats_below', encRow]); done) | with_reducible assumption)) | (with_reducible refine nx_here ?_) | rw [cutD_one])))
theorem okCs_ref {w i : Nat} {ls : List CL} {l : CL} (ok : okCs w ls) (hl : ls[i]? = some l) (hc : isCell l = true) : refCL l < i ∧ 0 < sizeCL w l ∧ 0 < sizeCL 0 l ∧ ∀ x v s, x < sizeCL w l → (szOf w ls)[refCL l]? = some s → v < s → changedL l x v < sizeCL w l := by
  have h := ok i l hl
  cases l with
  | latch n f r =>
    obtain ⟨h1, h2, h3, m, h4, h5⟩ := h
    obtain ⟨h6, h7⟩ := at_take h4
    refine ⟨h6, (show 0 < n by omega), (show 0 < n by omega), fun x v s hx hs hv => ?_⟩
    rw [show (szOf w ls)[refCL (.latch n f r)]? = some m from h7] at hs
    cases hs
    show (if v = 0 then x else v - 1) < n
    have hx : x < n := hx
    split <;> omega
  | counter p f r =>
    obtain ⟨h1, h2, h3, h4, h5⟩ := h
    rw [List.length_take] at h5
    refine ⟨(show r < i by omega), (show 0 < p by omega), (show 0 < p by omega), fun x v s _ _ _ => ?_⟩
    exact Nat.mod_lt _ (show 0 < p by omega)
  | _ => cases hc
theorem first_full {w : Nat} {ls : List CL} (ok : okCs w ls) : okFull w ls (firstF ls) := ⟨by unfold firstF; simp, fun i l x e1 e2 => by
  unfold firstF at e2
  rw [List.getElem?_map, e1] at e2
  cases e2
  have h := ok i l e1
  cases l with
  | latch n f r => exact h.2.2.1
  | counter n f r => exact h.2.2.2.1
  | _ => rfl⟩
theorem step_full {w c : Nat} {ls : List CL} {full : List Nat} (hc : c < w) (ok : okCs w ls) (hf : okFull w ls full) : okFull w ls (stepF ls full c) := by
  obtain ⟨v1, v2⟩ := valsF_low hc ok hf
  refine ⟨by unfold stepF; rw [List.length_map, List.length_zip, hf.1]; omega, fun i l y e1 e2 => ?_⟩
  unfold stepF at e2
  rw [List.getElem?_map] at e2
  cases hz : (ls.zip full)[i]? with
  | none => rw [hz] at e2; cases e2
  | some p =>
    rw [hz] at e2
    obtain ⟨h1, h2⟩ := List.getElem?_zip_eq_some.mp hz
    rw [e1] at h1
    have hx := hf.2 i l p.2 e1 h2
    have hp1 : p.1 = l := (Option.some.inj h1).symm
    simp only [Option.map_some, Option.some.injEq] at e2
    rw [hp1] at e2
    cases hcl : isCell l with
    | false =>
      rw [hcl] at e2 hx
      simp only [Bool.false_eq_true, if_false] at e2 hx ⊢
      omega
    | true =>
      rw [hcl] at e2 hx
      simp only [if_true] at e2 hx ⊢
      obtain ⟨h3, h4, _, h5⟩ := okCs_ref ok e1 hcl
      have hi := (List.getElem?_eq_some_iff.mp e1).1
      have hv : (valsF ls full c)[refCL l]? = some ((valsF ls full c).getD (refCL l) 0) := getD_some (by omega)
      obtain ⟨s, h6, h7⟩ := v2 _ _ hv
      rw [← e2]
      exact h5 _ _ s hx h6 h7
theorem run_full {a : Str} {ls : List CL} (ok : okCs a.length ls) : ∀ (cs : List Nat) (full : List Nat), okFull a.length ls full → (∀ c ∈ cs, c ∈ a.cps.toList) → okFull a.length ls (runF a ls full cs)
  | [], full, h, _ => h
  | c :: cs, full, h, hc => run_full ok cs _ (step_full (by
      have := List.idxOf_lt_length_of_mem (hc c List.mem_cons_self)
      rw [cps_len] at this; exact this) ok h) fun d hd => hc d (List.mem_cons_of_mem _ hd)
theorem runF_snoc {a : Str} {ls : List CL} {full cs : List Nat} {c : Nat} : runF a ls full (cs ++ [c]) = stepF ls (runF a ls full cs) (a.cps.toList.idxOf c) := by
  unfold runF
  rw [List.foldl_append]; rfl
theorem pack_step {c : Nat} {V : List Nat} : ∀ (ls : List CL) (full : List Nat) (k : Nat), full.length = ls.length →
    (((ls.zipIdx k).filter fun p => isCell p.1).map (·.2)).zip (pack ls full) = ((((ls.zip full).zipIdx k).filter fun p => isCell p.1.1).map fun p => (p.2, p.1.2))
  | [], full, k, _ => by simp [pack]
  | l :: ls, [], k, h => by simp at h
  | l :: ls, x :: full, k, h => by
    have ih := pack_step (c := c) (V := V) ls full (k + 1) (by simpa using h)
    rw [pack_cons, List.zip_cons_cons, List.zipIdx_cons, List.zipIdx_cons, List.filter_cons, List.filter_cons]
    cases hc : isCell l with
    | true => simp only [if_true, List.map_cons, List.zip_cons_cons]; rw [ih]
    | false => simp only [Bool.false_eq_true, if_false]; exact ih
theorem pack_map (f : CL → Nat → Nat) : ∀ (ls : List CL) (full : List Nat), full.length = ls.length → pack ls ((ls.zip full).map fun p => if isCell p.1 then f p.1 p.2 else p.2) = ((ls.zip full).filter fun p => isCell p.1).map fun p => f p.1 p.2
  | [], _, _ => by simp [pack]
  | l :: ls, [], h => by simp at h
  | l :: ls, x :: full, h => by
    have ih := pack_map f ls full (by simpa using h)
    rw [List.zip_cons_cons, List.map_cons, pack_cons, List.filter_cons]
    cases hc : isCell l with
    | true => simp only [if_true, List.map_cons]; rw [ih]
    | false => simp only [Bool.false_eq_true, if_false]; exact ih
theorem zip_filter {β : Type} (h : CL → Nat → β) : ∀ (ls : List CL) (full : List Nat) (k : Nat), ((((ls.zip full).zipIdx k).filter fun p => isCell p.1.1).map fun p => h p.1.1 p.1.2) = ((ls.zip full).filter fun p => isCell p.1).map fun p => h p.1 p.2
  | [], _, _ => by simp
  | l :: ls, [], _ => by simp
  | l :: ls, x :: full, k => by
    have ih := zip_filter h ls full (k + 1)
    rw [List.zip_cons_cons, List.zipIdx_cons, List.filter_cons, List.filter_cons]
    cases hc : isCell l with
    | true => simp only [if_true, List.map_cons]; rw [ih]
    | false => simp only [Bool.false_eq_true, if_false]; exact ih
theorem r_Circuit_stepped {KF : PySem.W.Frag} {ds S K X} (h : sp_Circuit_stepped KF ds S K X) (hb : belows S.length ds) (hS : belows S.length S) : u_Circuit_stepped KF (endsOf S K X) (startD ["self", "sides", "letter", "found", "at", "side"] ds) S := by
  have szl : sizeLine = 16777216 := rfl
  obtain ⟨d, sd, a, ls, full, c, rfl, ci, hn, hf, hc, k⟩ := h
  have hm := ci.most
  have hcl := cells_len ls
  obtain ⟨v1, v2⟩ := valsF_low hc ci.ok hf
  show u_Circuit_stepped KF (endsOf S K X) [some d, some sd, some (natD c), none, none, none] S
  unfold u_Circuit_stepped
  walk_at "w"
  refine mg_ci ci (by decide +kernel) ?_
  walk_at "w"
  refine fg_ci ci rfl ?_
  walk_at "w"
  refine ⟨natDs (cellsOf ls), natDs (pack ls full), rfl, by show drawD S sd = _; exact seq_draw hn, ?_⟩
  rw [pairs_map]
  have hz : (cellsOf ls).zip (pack ls full) = ((((ls.zip full).zipIdx 0).filter fun p => isCell p.1.1).map fun p => (p.2, p.1.2)) := by
    exact pack_step (c := c) (V := []) ls full 0 hf.1
  have hat : ∀ p ∈ (cellsOf ls).zip (pack ls full), ∃ l, ls[p.1]? = some l ∧ isCell l = true := fun p hp => cells_at (List.of_mem_zip hp).1
  refine lc_M ((cellsOf ls).zip (pack ls full)) (fun p => .tup [natD p.1, natD p.2]) (f := fun p => natD (changedL (ls.getD p.1 .letter) p.2 ((valsF ls full c).getD (refCL (ls.getD p.1 .letter)) 0))) ⟨rfl, seq_draw hn⟩ (by rw [List.length_zip]; omega) (fun p hp Kt Kf hk => ?_) ?_
  · dsimp only [wipeD, List.set_cons_succ, List.set_cons_zero]
    obtain ⟨l, hl, hcc⟩ := hat p hp
    have e : ls.getD p.1 .letter = l := by simp [List.getD, hl]
    rw [e] at hk
    obtain ⟨h3, h4, h40, h5⟩ := okCs_ref ci.ok hl hcc
    have hi := (List.getElem?_eq_some_iff.mp hl).1
    have hix : ∀ {D : KE}, D (encCL l) S → gIx (.lst (ls.map encCL)) (natD p.1) S D := fun h => x_ixn (xs := ls.map encCL) rfl (y := encCL l) (by rw [List.getElem?_map, hl]; rfl) h
    walk_at "w"
    refine fg_ci ci rfl ?_
    walk_at "w"
    refine hix ?_
    walk_at "w"
    refine fg_ci ci rfl ?_
    walk_at "w"
    refine hix ?_
    walk_at "w"
    refine cell_ix3 hcc ?_
    refine seq_ix (ns := valsF ls full c) rfl (getD_some (by omega)) ?_
    walk_at "w"
    exact hk
  walk_at "w"
  refine x_tuple rfl ?_
  walk_at "w"
  have : (((cellsOf ls).zip (pack ls full)).map fun p => natD (changedL (ls.getD p.1 .letter) p.2 ((valsF ls full c).getD (refCL (ls.getD p.1 .letter)) 0))) = natDs (pack ls (stepF ls full c)) := by
    rw [hz, List.map_map]
    unfold stepF
    rw [pack_map (fun l x => changedL l x ((valsF ls full c).getD (refCL l) 0)) ls full hf.1, ← zip_filter (fun l x => changedL l x ((valsF ls full c).getD (refCL l) 0)) ls full 0]
    show _ = List.map (fun n : Nat => Dat.int (n : Int)) (List.map _ _)
    rw [List.map_map]
    refine List.map_congr_left fun p hp => ?_
    have hm := (List.mem_filter.mp hp).1
    have h1 := List.mem_zipIdx_iff_getElem?.mp hm
    obtain ⟨h2, _⟩ := List.getElem?_zip_eq_some.mp h1
    show natD (changedL (ls.getD p.2 .letter) p.1.2 _) = natD (changedL p.1.1 p.1.2 _)
    rw [show ls.getD p.2 .letter = p.1.1 by simp [List.getD, h2]]
  refine rt_here ?_ ?_
  · rw [this]; simp only [below]; exact nats_below' _
  · rw [this]; exact k
theorem at_last' {α : Type} {xs : List α} {x : α} (h : xs[xs.length - 1]? = some x) (h0 : 0 < xs.length) : atI xs (-1) = some x := by
  unfold atI ixN
  rw [if_neg (by decide), if_pos (by omega)]
  show xs[(_ : Int).toNat]? = _
  rw [show ((-1 : Int) + (xs.length : Int)).toNat = xs.length - 1 by omega]
  exact h
theorem need_good {KF : PySem.W.Frag} {S : Store} {a z : Str} {Kt : KE} {X : KX} (hw : isWord a z = true) (hl : z.length ≤ 1000000) (k : Kt .non S) : sp_need_word KF [.str a, .str z] S Kt X := ⟨a, _, rfl, .inl ⟨z, rfl, hl, hw, k⟩⟩
theorem r_Circuit_value_with {KF : PySem.W.Frag} {ds S K X} (h : sp_Circuit_value_with KF ds S K X) (hb : belows S.length ds) (hS : belows S.length S) : u_Circuit_value_with KF (endsOf S K X) (startD ["self", "sides"] ds) S := by
  have szl : sizeLine = 16777216 := rfl
  obtain ⟨d, sd, a, ls, full, rfl, ci, hn, hf, k⟩ := h
  have h0 : 0 < a.length := (alpha_len ci.al).2.1
  obtain ⟨v1, v2⟩ := valsF_low h0 ci.ok hf
  have hp := ci.pos
  show u_Circuit_value_with KF (endsOf S K X) [some d, some sd] S
  unfold u_Circuit_value_with
  walk_at "w"
  refine mg_ci ci (by decide +kernel) ?_
  walk_at "w"
  refine x_ixL (xs := natDs (valsF ls full 0)) rfl (d := natD (lastF ls full)) (at_last' (by show (natDs _)[_]? = _; rw [List.length_map, v1, List.getElem?_map, getD_some (by omega)]; rfl) (by rw [List.length_map]; omega)) ?_
  walk_at "w"
  exact k
theorem idx_lt {a : Str} {c : Nat} (h : c ∈ a.cps.toList) : a.cps.toList.idxOf c < a.length := by
  have := List.idxOf_lt_length_of_mem h
  rw [cps_len] at this; exact this
theorem word_mem {a z : Str} (h : isWord a z = true) : ∀ c ∈ z.cps.toList, c ∈ a.cps.toList := fun c hc => by
  unfold isWord at h
  exact of_decide_eq_true (List.all_eq_true.mp h c hc)
theorem r_Circuit_sides_after {KF : PySem.W.Frag} {ds S K X} (h : sp_Circuit_sides_after KF ds S K X) (hb : belows S.length ds) (hS : belows S.length S) : u_Circuit_sides_after KF (endsOf S K X) (startD ["self", "word", "sides", "letter"] ds) S := by
  have szl : sizeLine = 16777216 := rfl
  obtain ⟨d, v, a, ls, rfl, ci, h⟩ := h
  simp only [belows] at hb
  show u_Circuit_sides_after KF (endsOf S K X) [some d, some v, none, none] S
  unfold u_Circuit_sides_after
  walk_at "w"
  refine fg_ci ci rfl ?_
  walk_at "w"
  rcases h with ⟨hbad, k⟩ | ⟨z, rfl, hz, hw, k⟩
  · refine need_bad hbad ?_
    exact exitX_here (dl := []) (by simp only [belows, below]; exact ⟨True.intro, hb.2.1, True.intro⟩) k
  · have hmem := word_mem hw
    refine need_good hw hz ?_
    walk_at "w"
    refine mg_ci ci (by decide +kernel) ?_
    walk_at "w"
    refine ⟨z.cps.toList.map fun c => .str (sgn c), rfl, ?_⟩
    refine for_T z.cps.toList (fun c => .str (sgn c)) (fun pre dl1 S2 => S2 = S ∧ ∃ x3, dl1 = [some d, some (.str z), some (.tup (natDs (pack ls (runF a ls (firstF ls) pre)))), x3]) ⟨rfl, _, rfl⟩ ?_ ?_ ?_
    · rintro pre dl1 S2 ⟨rfl, _⟩; rfl
    · rintro pre c rest dl1 S2 hx ⟨rfl, x3, rfl⟩
      have hc : c ∈ a.cps.toList := hmem c (by rw [hx]; simp)
      have hfull := run_full ci.ok pre (firstF ls) (first_full ci.ok) fun d hd => hmem d (by rw [hx]; exact List.mem_append_left _ hd)
      have hcl := idx_lt hc
      walk_at "w"
      refine mg_ci ci (by decide +kernel) ?_
      walk_at "w"
      refine fg_ci ci rfl ?_
      refine ⟨rfl, ?_⟩
      walk_at "w"
      refine x_sindex hc ?_
      walk_at "w"
      exact .inl ⟨rfl, _, by rw [runF_snoc]⟩
    · rintro dl1 S2 ⟨rfl, x3, rfl⟩
      walk_at "w"
      refine x_listC rfl ?_
      walk_at "w"
      exact exit_new hS (by simp only [below]; exact nats_below' _) k
theorem r_Circuit_after {KF : PySem.W.Frag} {ds S K X} (h : sp_Circuit_after KF ds S K X) (hb : belows S.length ds) (hS : belows S.length S) : u_Circuit_after KF (endsOf S K X) (startD ["self", "word"] ds) S := by
  have szl : sizeLine = 16777216 := rfl
  obtain ⟨d, v, a, ls, rfl, ci, h⟩ := h
  simp only [belows] at hb
  show u_Circuit_after KF (endsOf S K X) [some d, some v] S
  unfold u_Circuit_after
  walk_at "w"
  refine mg_ci ci (by decide +kernel) ?_
  walk_at "w"
  refine mg_ci ci (by decide +kernel) ?_
  walk_at "w"
  rcases h with ⟨hbad, k⟩ | ⟨z, rfl, hz, hw, k⟩
  · refine .inl ⟨hbad, ?_⟩
    exact exitX_here (dl := []) (by simp only [belows, below]; exact ⟨True.intro, hb.2.1, True.intro⟩) k
  · refine .inr ⟨z, rfl, hz, hw, ?_⟩
    have hmem := word_mem hw
    have hfull := run_full ci.ok z.cps.toList (firstF ls) (first_full ci.ok) hmem
    have hci := ci.app (R := [.lst (natDs (pack ls (runF a ls (firstF ls) z.cps.toList)))])
    walk_at "w"
    exact ⟨show seqD _ _ = some (natDs (pack ls (runF a ls (firstF ls) z.cps.toList))) by simp only [seqD, st1a], hfull, exit_pure (by simp only [below]) k⟩
end DL
namespace DL
open PySem L2
local macro_rules | `(tactic| walk_at "sm") => `(tactic| (repeat (first | exact same_str | exact same_int | exact same_non | exact same_bl | ((with_reducible refine same_tA ?_ ?_); · rfl) | ((with_reducible refine same_lA ?_ ?_); · rfl) | with_reducible exact All2.nil | with_reducible refine All2.cons ?_ ?_ | with_reducible assumption)))
local macro_rules | `(tactic| walk_at "p") => `(tactic| (repeat (first | with_reducible refine ma_and (by assumption) ?_ | ((with_reducible refine And.intro ?_ ?_); (next => first | with_reducible assumption | rfl | decide | omega)) | with_reducible apply Exists.intro)))
local macro_rules | `(tactic| walk_at "w") => `(tactic| (repeat (first
  | with_reducible refine Step.h ?_ | ((with_reducible refine x_putL ?_ ?_); · rfl) | ((with_reducible refine x_name ?_ ?_); · exact of_decide_eq_true rfl) | ((with_reducible refine x_gtup ?_ ?_); · rfl) | ((with_reducible refine x_szL ?_ ?_); · rfl) | dsimp only [List.set_cons_succ, List.set_cons_zero]
  | ((with_reducible refine Open.h ?_); (repeat (first | with_reducible refine ma_and (by assumption) ?_ | ((with_reducible refine And.intro ?_ ?_); (next => first | with_reducible assumption | rfl | decide | omega)) | with_reducible apply Exists.intro))) | ((with_reducible refine x_is ?_ ?_); · rfl) | ((with_reducible refine x_isnot ?_ ?_); · rfl) | ((with_reducible refine x_isiD ?_ ?_ ?_); (next => rfl); (next => decide)) | ((with_reducible refine x_isiD2 ?_ ?_ ?_ ?_); (next => rfl); (next => decide); (next => decide))
  | ((with_reducible refine x_inTi ?_ ?_); · rfl) | ((with_reducible refine x_inTn ?_ ?_); · rfl) | ((with_reducible refine x_iteT2 ?_ ?_); · rfl) | ((with_reducible refine x_iteF2 ?_ ?_); · rfl) | (with_reducible first | refine mg_ma (by assumption) (by decide +kernel) ?_ | refine mg_ma1 (by assumption) (by decide +kernel) ?_ | refine pg_ma (by assumption) ?_ | refine pg_ma1 (by assumption) ?_ | refine fg_al (by assumption) ?_ | refine fg_rows (by assumption) ?_ | refine fg_start (by assumption) ?_) | ((with_reducible refine o_law_same ?_ ?_); (next => (repeat (first | exact same_str | exact same_int | exact same_non | exact same_bl | ((with_reducible refine same_tA ?_ ?_); · rfl) | ((with_reducible refine same_lA ?_ ?_); · rfl) | with_reducible exact All2.nil | with_reducible refine All2.cons ?_ ?_ | with_reducible assumption)); done))
  | ((with_reducible refine rt_here ?_ ?_); (next => first | ((simp only [below, nats_below', encRow]); done) | with_reducible assumption)) | (with_reducible refine nx_here ?_) | rw [cutD_one])))
theorem lkOf_snoc (pre : List CL) (l : CL) : lkOf (pre ++ [l]) = lkOf pre ++ [lookF (lkOf pre) l] := by
  unfold lkOf; rw [List.foldl_append]; rfl
theorem foldl_len (f : List Bool → CL → Bool) : ∀ (ls : List CL) (acc : List Bool), (ls.foldl (fun acc l => acc ++ [f acc l]) acc).length = acc.length + ls.length
  | [], acc => rfl
  | l :: ls, acc => by rw [List.foldl_cons, foldl_len f ls]; simp; omega
theorem lkOf_len (ls : List CL) : (lkOf ls).length = ls.length := by
  unfold lkOf; rw [foldl_len]; simp
theorem size_pos {sz : List Nat} {w : Nat} {l : CL} (hw : 0 < w ∧ w ≤ 1000) (ok : okCL sz l) : 0 < sizeCL w l ∧ sizeCL w l ≤ 1000 := by
  cases l with
  | const n => exact ⟨Nat.succ_pos _, Nat.succ_le_succ ok⟩
  | letter => exact hw
  | wire r t => exact ⟨Nat.succ_pos _, Nat.succ_le_succ (maxN_le ok.2.2)⟩
  | join r q t =>
    obtain ⟨_, _, m, _, _, h⟩ := ok
    refine ⟨Nat.succ_pos _, Nat.succ_le_succ (maxN_le fun x hx => ?_)⟩
    obtain ⟨row, hr, rfl⟩ := List.mem_map.mp hx
    exact maxN_le (h row hr).2
  | latch n f r => obtain ⟨h1, h2, _⟩ := ok; exact ⟨(show 0 < n by omega), (show n ≤ 1000 by omega)⟩
  | counter p f r => obtain ⟨_, h1, h2, _⟩ := ok; exact ⟨(show 0 < p by omega), (show p ≤ 1000 by omega)⟩
theorem sz_pos {w : Nat} {ls : List CL} (hw : 0 < w ∧ w ≤ 1000) (ok : okCs w ls) : ∀ s ∈ szOf w ls, 0 < s ∧ s ≤ 1000 := fun s hs => by
  obtain ⟨l, hl, rfl⟩ := List.mem_map.mp hs
  obtain ⟨i, hi⟩ := List.getElem?_of_mem hl
  exact size_pos hw (ok i l hi)
theorem num_yes {lo hi : Int} {n : Nat} (h1 : lo ≤ (n : Int)) (h2 : (n : Int) ≤ hi) : isNumB lo hi (natD n) = true := by
  simp only [isNumB, decide_eq_true h1, decide_eq_true h2, Bool.and_self]
theorem numD_nat (n : Nat) : numD (natD n) = n := Int.toNat_natCast n
theorem rowD_enc (t : List Nat) : rowD (encRow t) = t := by
  show ((t.map fun n : Nat => Dat.int (n : Int)).map numD) = t
  rw [List.map_map]
  conv => rhs; rw [← List.map_id t]
  exact List.map_congr_left fun n _ => numD_nat n
theorem table_enc {t : List Nat} (h : ∀ x ∈ t, x ≤ 999) : tableB t.length (encRow t) = true := by
  show (decide ((t.map fun n : Nat => Dat.int (n : Int)).length = t.length) && (t.map fun n : Nat => Dat.int (n : Int)).all (isNumB 0 999)) = true
  rw [decide_eq_true (by rw [List.length_map]), Bool.true_and, List.all_eq_true]
  intro x hx
  obtain ⟨n, hn, rfl⟩ := List.mem_map.mp hx
  exact num_yes (by omega) (by have := h n hn; omega)
/-- a right line is read back -/
theorem lineD_enc {sz : List Nat} {l : CL} (ok : okCL sz l) : lineD sz (encCL l) = some l := by
  have lt : ∀ {r m}, sz[r]? = some m → r < sz.length := fun h => (List.getElem?_eq_some_iff.mp h).1
  cases l with
  | const n =>
    show (if (Str.ofString "const") = "const" ∧ isNumB 0 999 (natD n) = true then some (CL.const (numD (natD n))) else none) = _
    rw [if_pos ⟨rfl, num_yes (by omega) (by have : n ≤ 999 := ok; omega)⟩, numD_nat]
  | letter => rfl
  | wire r t =>
    obtain ⟨h1, h2, h3⟩ := ok
    have := lt h1
    show (if (Str.ofString "wire") = "wire" ∧ isNumB 0 ((sz.length : Int) - 1) (natD r) = true ∧ tableB (sz.getD (numD (natD r)) 0) (encRow t) = true then some (CL.wire (numD (natD r)) (rowD (encRow t))) else none) = _
    rw [if_pos ⟨rfl, num_yes (by omega) (by omega), by rw [numD_nat, gd h1]; exact table_enc h3⟩, numD_nat, rowD_enc]
  | join r q t =>
    obtain ⟨h1, h2, m, h3, h4, h5⟩ := ok
    have := lt h1
    have := lt h3
    have hall : (t.map encRow).all (tableB (sz.getD (numD (natD q)) 0)) = true := by
      rw [numD_nat, gd h3, List.all_eq_true]
      intro x hx
      obtain ⟨row, hr, rfl⟩ := List.mem_map.mp hx
      rw [← (h5 row hr).1]
      exact table_enc (h5 row hr).2
    simp only [encCL, lineD, if_true]
    rw [if_pos ⟨num_yes (by omega) (by omega), num_yes (by omega) (by omega), by rw [numD_nat, gd h1, List.length_map], hall⟩, numD_nat, numD_nat, List.map_map]
    · congr 2
      conv => rhs; rw [← List.map_id t]
      exact List.map_congr_left fun row _ => rowD_enc row
  | latch n f r =>
    obtain ⟨h1, h2, h3, m, h4, h5⟩ := ok
    have := lt h4
    simp only [encCL, lineD, show ¬ ((Str.ofString "latch") = "join") by decide, if_true, if_false]
    rw [if_pos ⟨num_yes (by omega) (by omega), num_yes (by omega) (by omega), by rw [numD_nat, numD_nat, gd h4]; exact h5, by rw [numD_nat]; exact num_yes (by omega) (by omega)⟩, numD_nat, numD_nat, numD_nat]
  | counter p f r =>
    obtain ⟨h0, h1, h2, h3, h4⟩ := ok
    simp only [encCL, lineD, show ¬ ((Str.ofString "counter") = "join") by decide, show ¬ ((Str.ofString "counter") = "latch") by decide, if_true, if_false]
    rw [if_pos ⟨num_yes (by omega) (by omega), num_yes (by omega) (by omega), by rw [numD_nat]; unfold primeB; simp only [decide_eq_true_eq]; exact h0, by rw [numD_nat]; exact num_yes (by omega) (by omega)⟩, numD_nat, numD_nat, numD_nat]
theorem kind_nat {S : Store} {n : Nat} : okKind S (natD n) := ⟨"int", rfl, by decide⟩
theorem deep_nat {S : Store} {n k : Nat} : okDeep S k (natD n) := by
  cases k with
  | zero => exact kind_nat
  | succ k => exact ⟨kind_nat, fun xs h => by cases h⟩
theorem deep_str {S : Store} {z : Str} {k : Nat} : okDeep S k (.str z) := by
  cases k with
  | zero => exact ⟨"str", rfl, by decide⟩
  | succ k => exact ⟨⟨"str", rfl, by decide⟩, fun xs h => by cases h⟩
theorem deep_tup {S : Store} {k : Nat} {xs : List Dat} (hl : xs.length ≤ 1000000) (h : ∀ x ∈ xs, okDeep S k x) : okDeep S (k + 1) (.tup xs) := ⟨⟨"tuple", rfl, by decide⟩, fun ys e => by cases e; exact ⟨hl, h⟩⟩
theorem deep_row {S : Store} {k : Nat} {t : List Nat} (hl : t.length ≤ 1000000) : okDeep S (k + 1) (encRow t) := deep_tup (by rw [List.length_map]; exact hl) fun x hx => by
  obtain ⟨n, _, rfl⟩ := List.mem_map.mp hx
  exact deep_nat
theorem tab_len {sz : List Nat} (hs : ∀ s ∈ sz, 0 < s ∧ s ≤ 1000) {l : CL} (ok : okCL sz l) : (∀ r t, l = .wire r t → t.length ≤ 1000) ∧ ∀ r q t, l = .join r q t → t.length ≤ 1000 ∧ ∀ row ∈ t, row.length ≤ 1000 := by
  constructor
  · rintro r t rfl
    exact (hs _ (List.mem_of_getElem? ok.1)).2
  · rintro r q t rfl
    obtain ⟨h1, _, m, h3, _, h5⟩ := ok
    exact ⟨(hs _ (List.mem_of_getElem? h1)).2, fun row hr => by rw [(h5 row hr).1]; exact (hs _ (List.mem_of_getElem? h3)).2⟩
theorem deep_line {S : Store} {sz : List Nat} (hs : ∀ s ∈ sz, 0 < s ∧ s ≤ 1000) {l : CL} (ok : okCL sz l) : okDeep S 3 (encCL l) := by
  obtain ⟨h1, h2⟩ := tab_len hs ok
  cases l with
  | const n =>
    exact deep_tup (by show 2 ≤ 1000000; decide) fun x hx => by
      simp only [List.mem_cons, List.not_mem_nil, or_false] at hx
      rcases hx with rfl | rfl
      · exact deep_str
      · exact deep_nat
  | letter =>
    exact deep_tup (by show 1 ≤ 1000000; decide) fun x hx => by
      simp only [List.mem_cons, List.not_mem_nil, or_false] at hx
      subst hx; exact deep_str
  | wire r t =>
    exact deep_tup (by show 3 ≤ 1000000; decide) fun x hx => by
      simp only [List.mem_cons, List.not_mem_nil, or_false] at hx
      rcases hx with rfl | rfl | rfl
      · exact deep_str
      · exact deep_nat
      · exact deep_row (by have := h1 r t rfl; omega)
  | join r q t =>
    exact deep_tup (by show 4 ≤ 1000000; decide) fun x hx => by
      simp only [List.mem_cons, List.not_mem_nil, or_false] at hx
      rcases hx with rfl | rfl | rfl | rfl
      · exact deep_str
      · exact deep_nat
      · exact deep_nat
      · refine deep_tup (by have := (h2 r q t rfl).1; rw [List.length_map]; omega) fun y hy => ?_
        obtain ⟨row, hr, rfl⟩ := List.mem_map.mp hy
        exact deep_row (by have := (h2 r q t rfl).2 row hr; omega)
  | latch n f r =>
    exact deep_tup (by show 4 ≤ 1000000; decide) fun x hx => by
      simp only [List.mem_cons, List.not_mem_nil, or_false] at hx
      rcases hx with rfl | rfl | rfl | rfl
      · exact deep_str
      all_goals exact deep_nat
  | counter n f r =>
    exact deep_tup (by show 4 ≤ 1000000; decide) fun x hx => by
      simp only [List.mem_cons, List.not_mem_nil, or_false] at hx
      rcases hx with rfl | rfl | rfl | rfl
      · exact deep_str
      all_goals exact deep_nat
theorem str1_line (l : CL) : okStr1 (encCL l) := fun z r h => by
  cases l <;> (injection h with h; injection h with h _; injection h with h; subst h; decide +kernel)
theorem line_below {n : Nat} (l : CL) : below n (encCL l) := by
  cases l with
  | wire r t => show below n (.tup [_, _, .tup _]); simp only [below, belows, and_true, true_and]; exact nats_below' _
  | join r q t => show below n (.tup [_, _, _, .tup _]); simp only [below, belows, and_true, true_and]; exact rows_below _
  | _ => show below n (.tup _); simp only [below, belows, and_true]
theorem lines_below {n : Nat} : ∀ ls : List CL, belows n (ls.map encCL)
  | [] => by simp only [List.map_nil, belows]
  | l :: ls => by simp only [List.map_cons, belows]; exact ⟨line_below l, lines_below ls⟩
theorem bls_below {n : Nat} : ∀ bs : List Bool, belows n (bs.map Dat.bl)
  | [] => by simp only [List.map_nil, belows]
  | b :: bs => by simp only [List.map_cons, belows, below, true_and]; exact bls_below bs
end DL
namespace DL
open PySem L2
local macro_rules | `(tactic| walk_at "sm") => `(tactic| (repeat (first | exact same_str | exact same_int | exact same_non | exact same_bl | ((with_reducible refine same_tA ?_ ?_); · rfl) | ((with_reducible refine same_lA ?_ ?_); · rfl) | with_reducible exact All2.nil | with_reducible refine All2.cons ?_ ?_ | with_reducible assumption)))
local macro_rules | `(tactic| walk_at "p") => `(tactic| (repeat (first | with_reducible refine ma_and (by assumption) ?_ | ((with_reducible refine And.intro ?_ ?_); (next => first | with_reducible assumption | rfl | decide | omega)) | with_reducible apply Exists.intro)))
local macro_rules | `(tactic| walk_at "w") => `(tactic| (repeat (first
  | with_reducible refine Step.h ?_ | ((with_reducible refine x_putL ?_ ?_); · rfl) | ((with_reducible refine x_name ?_ ?_); · exact of_decide_eq_true rfl) | ((with_reducible refine x_gtup ?_ ?_); · rfl) | ((with_reducible refine x_szL ?_ ?_); · rfl) | dsimp only [List.set_cons_succ, List.set_cons_zero]
  | ((with_reducible refine Open.h ?_); (repeat (first | with_reducible refine ma_and (by assumption) ?_ | ((with_reducible refine And.intro ?_ ?_); (next => first | with_reducible assumption | rfl | decide | omega)) | with_reducible apply Exists.intro))) | ((with_reducible refine x_is ?_ ?_); · rfl) | ((with_reducible refine x_isnot ?_ ?_); · rfl) | ((with_reducible refine x_isiD ?_ ?_ ?_); (next => rfl); (next => decide)) | ((with_reducible refine x_isiD2 ?_ ?_ ?_ ?_); (next => rfl); (next => decide); (next => decide))
  | ((with_reducible refine x_inTi ?_ ?_); · rfl) | ((with_reducible refine x_inTn ?_ ?_); · rfl) | ((with_reducible refine x_iteT2 ?_ ?_); · rfl) | ((with_reducible refine x_iteF2 ?_ ?_); · rfl) | (with_reducible first | refine mg_ma (by assumption) (by decide +kernel) ?_ | refine mg_ma1 (by assumption) (by decide +kernel) ?_ | refine pg_ma (by assumption) ?_ | refine pg_ma1 (by assumption) ?_ | refine fg_al (by assumption) ?_ | refine fg_rows (by assumption) ?_ | refine fg_start (by assumption) ?_) | ((with_reducible refine o_law_same ?_ ?_); (next => (repeat (first | exact same_str | exact same_int | exact same_non | exact same_bl | ((with_reducible refine same_tA ?_ ?_); · rfl) | ((with_reducible refine same_lA ?_ ?_); · rfl) | with_reducible exact All2.nil | with_reducible refine All2.cons ?_ ?_ | with_reducible assumption)); done))
  | ((with_reducible refine rt_here ?_ ?_); (next => first | ((simp only [below, nats_below', encRow]); done) | with_reducible assumption)) | (with_reducible refine nx_here ?_) | rw [cutD_one])))
section
variable {KF : PySem.W.Frag} {S : Store} {K : KE} {X : KX} {D : DEnds} {z : Str} {d : Dat} {n : Nat} {x0 x1 x2 x5 x6 x7 x8 : Option Dat}
/-- the loop's store behind some right lines -/
abbrev stL (S : Store) (w : Nat) (pre : List CL) : Store := S ++ [.lst (natDs (szOf w pre)), .lst ((lkOf pre).map Dat.bl)]
def bodyL (K : PySem.W.Frag) : US :=
  (uSeq (uSet 7 (uCall (sp_size_of_line K) [] (uCons (uVar 6) (uCons (uVar 3) (uCons (uCB gLen (uCons (uVar 1) uNil)) uNil)))))
    (uSeq (uIfS (uTest (uOp (gIs id) (uVar 7) (uC .non))) (uRaise (He.ga K "InvalidLine") [("code", .c "InvalidLine"), ("at", .a 0)] 1 false (uCons (uVar 5) uNil)) uNext)
    (uSeq (uDrop (uBM "list" gAppend (uVar 3) (uCons (uVar 7) uNil)))
    (uDrop (uBM "list" gAppend (uVar 4) (uCons (uOrV (uOp gEq (uOp gIx (uVar 6) (uC (.int 0))) (uC (.str "letter"))) (uAndV (uNotV (uCall (sp_is_cell K) [] (uCons (uVar 6) uNil))) (uCB (gBools fun bs => bs.any id) (uCons (uLc (uSeqI (uCall (sp_refs_of K) [] (uCons (uVar 6) uNil))) [8] (uName 8) uYes (uOp gIx (uVar 4) (uVar 8))) uNil)))) uNil))))))
theorem head_ix {S : Store} {K : KE} {l : CL} (k : K (.str (nameCL l)) S) : gIx (encCL l) (.int 0) S K := by
  cases l <;> exact x_ixt0 k
theorem name_letter {l : CL} : decide (nameCL l = "letter") = (match l with | .letter => true | _ => false) := by
  cases l <;> first | rfl | (exact decide_eq_false (by decide))
theorem bodyL_good {pre : List CL} {l : CL} {m : Nat} (hm : m = pre.length) (hz : z.length ≤ 1000000) (hza : isAlpha z = true) (hp : okCs z.length pre) (ok : okCL (szOf z.length pre) l) (hl : pre.length < 4000)
    (k : ∀ y5 y6 y7 y8, D.nx [x0, some (.str z), x2, some (.cell S.length), some (.cell (S.length + 1)), y5, y6, y7, y8] (stL S z.length (pre ++ [l]))) :
    bodyL KF D [x0, some (.str z), x2, some (.cell S.length), some (.cell (S.length + 1)), some (natD m), some (encCL l), x7, x8] (stL S z.length pre) := by
  subst hm
  have szl : sizeLine = 16777216 := rfl
  obtain ⟨h4, h0, _⟩ := alpha_len hza
  have hpos := sz_pos (w := z.length) ⟨h0, by omega⟩ hp
  have hsl : (szOf z.length pre).length = pre.length := by unfold szOf; rw [List.length_map]
  have hlk := lkOf_len pre
  have hseq : seqD (stL S z.length pre) (.cell S.length) = some (natDs (szOf z.length pre)) := by simp only [seqD, st2a]
  unfold bodyL
  walk_at "w"
  refine x_lenS (by omega) ?_
  walk_at "w"
  refine ⟨deep_line hpos ok, str1_line l, hseq, by omega, hpos, ?_⟩
  rw [lineD_enc ok]
  have hsz : natDs (szOf z.length (pre ++ [l])) = natDs (szOf z.length pre) ++ [natD (sizeCL z.length l)] := by unfold szOf; rw [List.map_append]; simp
  have hlk2 : (lkOf (pre ++ [l])).map Dat.bl = (lkOf pre).map Dat.bl ++ [.bl (lookF (lkOf pre) l)] := by rw [lkOf_snoc]; simp
  simp only [Option.map_some, optN]
  walk_at "w"
  refine ⟨isT_list st2a, ?_⟩
  walk_at "w"
  refine x_append st2a (by rw [List.length_map]; omega) ?_
  rw [st2sa]
  walk_at "w"
  refine ⟨isT_list st2b, ?_⟩
  walk_at "w"
  refine head_ix ?_
  walk_at "w"
  rw [name_letter]
  have fin : ∀ b : Bool, b = lookF (lkOf pre) l → gAppend (.cell (S.length + 1)) [.bl b] (S ++ [.lst (natDs (szOf z.length pre) ++ [natD (sizeCL z.length l)]), .lst ((lkOf pre).map Dat.bl)]) (fun _ S1 => D.nx [x0, some (.str z), x2, some (.cell S.length), some (.cell (S.length + 1)), some (natD pre.length), some (encCL l), some (natD (sizeCL z.length l)), x8] S1) := fun b hb => by
    refine x_append st2b (by rw [List.length_map]; omega) ?_
    rw [st2sb, hb, ← hsz, ← hlk2]
    exact k _ _ _ _
  have lk_at : ∀ {D : KE} {Sx : Store} {r : Nat}, r < pre.length → seqD Sx (.cell (S.length + 1)) = some ((lkOf pre).map Dat.bl) → D (.bl ((lkOf pre).getD r false)) Sx → gIx (.cell (S.length + 1)) (natD r) Sx D := fun {D Sx r} hr hq h => x_ixn hq (y := .bl ((lkOf pre).getD r false)) (by rw [List.getElem?_map, List.getElem?_eq_getElem (by omega), List.getD, List.getElem?_eq_getElem (by omega)]; rfl) h
  have hq2 : seqD (S ++ [.lst (natDs (szOf z.length pre) ++ [natD (sizeCL z.length l)]), .lst ((lkOf pre).map Dat.bl)]) (.cell (S.length + 1)) = some ((lkOf pre).map Dat.bl) := by simp only [seqD, st2b]
  cases l with
  | letter =>
    walk_at "w"
    exact fin true rfl
  | latch n f r =>
    walk_at "w"
    exact fin false rfl
  | counter n f r =>
    walk_at "w"
    exact fin false rfl
  | const n =>
    walk_at "w"
    refine ⟨[], rfl, ?_⟩
    refine lc_I [] (f := fun x => x) rfl (by show 0 ≤ sizeLine; omega) (fun a ha => by cases ha) ?_
    walk_at "w"
    refine x_bools (bs := []) rfl ?_
    exact fin false rfl
  | wire r t =>
    have hr : r < pre.length := by have := (List.getElem?_eq_some_iff.mp ok.1).1; omega
    walk_at "w"
    refine ⟨[natD r], rfl, ?_⟩
    refine lc_M [r] (fun n : Nat => natD n) (f := fun r => .bl ((lkOf pre).getD r false)) rfl (by show 1 ≤ sizeLine; omega) (fun a ha Kt Kf hk => ?_) ?_
    · obtain rfl := List.mem_singleton.mp ha
      dsimp only [wipeD, List.set_cons_succ, List.set_cons_zero]
      walk_at "w"
      exact lk_at hr hq2 hk
    walk_at "w"
    refine x_bools (bs := [(lkOf pre).getD r false]) rfl ?_
    exact fin _ (by simp [lookF])
  | join r q t =>
    obtain ⟨o1, _, m, o2, _⟩ := ok
    have hr : r < pre.length := by have := (List.getElem?_eq_some_iff.mp o1).1; omega
    have hq : q < pre.length := by have := (List.getElem?_eq_some_iff.mp o2).1; omega
    walk_at "w"
    refine ⟨[natD r, natD q], rfl, ?_⟩
    refine lc_M [r, q] (fun n : Nat => natD n) (f := fun r => .bl ((lkOf pre).getD r false)) rfl (by show 2 ≤ sizeLine; omega) (fun a ha Kt Kf hk => ?_) ?_
    · have ha : a < pre.length := by
        rcases List.mem_cons.mp ha with rfl | ha
        · exact hr
        · rw [List.mem_singleton.mp ha]; exact hq
      dsimp only [wipeD, List.set_cons_succ, List.set_cons_zero]
      walk_at "w"
      exact lk_at ha hq2 hk
    walk_at "w"
    refine x_bools (bs := [(lkOf pre).getD r false, (lkOf pre).getD q false]) rfl ?_
    exact fin _ (by simp [lookF])
end
end DL
namespace DL
open PySem L2
local macro_rules | `(tactic| walk_at "sm") => `(tactic| (repeat (first | exact same_str | exact same_int | exact same_non | exact same_bl | ((with_reducible refine same_tA ?_ ?_); · rfl) | ((with_reducible refine same_lA ?_ ?_); · rfl) | with_reducible exact All2.nil | with_reducible refine All2.cons ?_ ?_ | with_reducible assumption)))
local macro_rules | `(tactic| walk_at "p") => `(tactic| (repeat (first | with_reducible refine ma_and (by assumption) ?_ | ((with_reducible refine And.intro ?_ ?_); (next => first | with_reducible assumption | rfl | decide | omega)) | with_reducible apply Exists.intro)))
local macro_rules | `(tactic| walk_at "w") => `(tactic| (repeat (first
  | with_reducible refine Step.h ?_ | ((with_reducible refine x_putL ?_ ?_); · rfl) | ((with_reducible refine x_name ?_ ?_); · exact of_decide_eq_true rfl) | ((with_reducible refine x_gtup ?_ ?_); · rfl) | ((with_reducible refine x_szL ?_ ?_); · rfl) | dsimp only [List.set_cons_succ, List.set_cons_zero]
  | ((with_reducible refine Open.h ?_); (repeat (first | with_reducible refine ma_and (by assumption) ?_ | ((with_reducible refine And.intro ?_ ?_); (next => first | with_reducible assumption | rfl | decide | omega)) | with_reducible apply Exists.intro))) | ((with_reducible refine x_is ?_ ?_); · rfl) | ((with_reducible refine x_isnot ?_ ?_); · rfl) | ((with_reducible refine x_isiD ?_ ?_ ?_); (next => rfl); (next => decide)) | ((with_reducible refine x_isiD2 ?_ ?_ ?_ ?_); (next => rfl); (next => decide); (next => decide))
  | ((with_reducible refine x_inTi ?_ ?_); · rfl) | ((with_reducible refine x_inTn ?_ ?_); · rfl) | ((with_reducible refine x_iteT2 ?_ ?_); · rfl) | ((with_reducible refine x_iteF2 ?_ ?_); · rfl) | (with_reducible first | refine mg_ma (by assumption) (by decide +kernel) ?_ | refine mg_ma1 (by assumption) (by decide +kernel) ?_ | refine pg_ma (by assumption) ?_ | refine pg_ma1 (by assumption) ?_ | refine fg_al (by assumption) ?_ | refine fg_rows (by assumption) ?_ | refine fg_start (by assumption) ?_) | ((with_reducible refine o_law_same ?_ ?_); (next => (repeat (first | exact same_str | exact same_int | exact same_non | exact same_bl | ((with_reducible refine same_tA ?_ ?_); · rfl) | ((with_reducible refine same_lA ?_ ?_); · rfl) | with_reducible exact All2.nil | with_reducible refine All2.cons ?_ ?_ | with_reducible assumption)); done))
  | (with_reducible refine x_rz1 ?_) | (with_reducible refine x_rz0 ?_) | ((with_reducible refine rt_here ?_ ?_); (next => first | ((simp only [below, nats_below', encRow]); done) | with_reducible assumption)) | (with_reducible refine nx_here ?_) | rw [cutD_one])))
theorem alpha_good {KF : PySem.W.Frag} {S : Store} {z : Str} {Kt : KE} {X : KX} (hz : z.length ≤ 1000000) (ha : isAlpha z = true) (k : Kt .non S) : sp_need_alphabet KF [.str z] S Kt X := ⟨_, rfl, .inl ⟨z, rfl, hz, ha, k⟩⟩
theorem bodyL_eq (K : PySem.W.Frag) : u_Circuit_init K = (uSeq (uDrop (uCall (sp_need_alphabet K) [] (uCons (uVar 1) uNil)))
    (uSeq (uIfS (uOr (uNot (uTru (uCB (gIsi K) (uCons (uVar 2) (uCons (uTup (uCons (uC (.raw (.ty "list"))) (uCons (uC (.raw (.ty "tuple"))) uNil))) uNil))))) (uTest (uOp gEq (uCB gLen (uCons (uVar 2) uNil)) (uC (.int 0))))) (uRaise (He.ga K "InvalidLine") [("code", .c "InvalidLine"), ("at", .a 0)] 1 false (uCons (uC (.int 0)) uNil)) uNext)
    (uSeq (uIfS (uTest (uOp gGt (uCB gLen (uCons (uVar 2) uNil)) (uC (.int 4000)))) (uRaise (He.ga K "TooMany") [("code", .c "TooMany"), ("most", .a 1), ("subject", .a 0)] 2 true (uCons (uC (.str "lines")) (uCons (uC (.int 4000)) uNil))) uNext)
    (uSeq (uSet 3 (uLstC uNil))
    (uSeq (uSet 4 (uLstC uNil))
    (uSeq (uFor (uEnK 0 (uCons (uVar 2) uNil)) (uGTup 2 (uGCons (uName 5) (uGCons (uName 6) uGNil))) (bodyL K))
    (uSeq (uIfS (uTru (uOp gIx (uVar 4) (uUn gNeg (uC (.int 1))))) (uRaise (He.ga K "InvalidLine") [("code", .c "InvalidLine"), ("at", .a 0)] 1 false (uCons (uOp gSub (uCB gLen (uCons (uVar 2) uNil)) (uC (.int 1))) uNil)) uNext)
    (uSeq (uSetF [He.ga K "Circuit"] "own_alphabet" (uVar 0) (uVar 1))
    (uSeq (uSetF [He.ga K "Circuit"] "own_lines" (uVar 0) (uCB gListT (uCons (uVar 2) uNil)))
    (uSeq (uSetF [He.ga K "Circuit"] "own_sizes" (uVar 0) (uVar 3))
    (uSeq (uSetF [He.ga K "Circuit"] "looking" (uVar 0) (uVar 4))
    (uSetF [He.ga K "Circuit"] "own_cells" (uVar 0) (uLc (uEnK 0 (uCons (uVar 2) uNil)) [5, 6] (uGTup 2 (uGCons (uName 5) (uGCons (uName 6) uGNil))) (uTru (uCall (sp_is_cell K) [] (uCons (uVar 6) uNil))) (uVar 5)))))))))))))) := rfl
theorem st_two {S : Store} {a b : Dat} : (S ++ [a]) ++ [b] = S ++ [a, b] := by simp
theorem draw_app {S R : Store} {d : Dat} {xs : List Dat} (h : seqD S d = some xs) : drawD (S ++ R) d = some xs := seq_draw (seq_app h)
theorem last_lk {ls : List CL} {b : Bool} (h : (lkOf ls).getLast? = some b) : atI ((lkOf ls).map Dat.bl) (-1) = some (.bl b) := by
  have h0 : 0 < (lkOf ls).length := by
    cases e : lkOf ls with
    | nil => rw [e] at h; cases h
    | cons _ _ => simp
  rw [List.getLast?_eq_getElem?] at h
  exact at_last' (by rw [List.length_map, List.getElem?_map, h]; rfl) (by rw [List.length_map]; exact h0)
theorem cells_lc (ls : List CL) : (((ls.zipIdx 0).filter fun p : CL × Nat => isCell p.1).map fun p => natD p.2) = natDs (cellsOf ls) := by
  unfold cellsOf
  show _ = List.map (fun n : Nat => Dat.int (n : Int)) (List.map _ _)
  rw [List.map_map]; rfl
/-- behind the loop: the fields -/
theorem init_end {KF : PySem.W.Frag} {S : Store} {K : KE} {X : KX} {n : Nat} {z : Str} {d : Dat} {ls : List CL} {x5 x6 x7 x8 : Option Dat} (hn : S[n]? = some (.ins (He.ga KF "Circuit") [] [])) (hs : seqD S d = some (ls.map encCL)) (hd : d ≠ .cell n) (hm : ls.length ≤ 4000) (hb0 : belows S.length S)
    (k : K .non (S.set n (.ins (He.ga KF "Circuit") cirNs [.str z, .lst (ls.map encCL), .cell S.length, .cell (S.length + 1), .lst (natDs (cellsOf ls))]) ++ [.lst (natDs (szOf z.length ls)), .lst ((lkOf ls).map Dat.bl)])) :
    (uSeq (uSetF [He.ga KF "Circuit"] "own_alphabet" (uVar 0) (uVar 1))
    (uSeq (uSetF [He.ga KF "Circuit"] "own_lines" (uVar 0) (uCB gListT (uCons (uVar 2) uNil)))
    (uSeq (uSetF [He.ga KF "Circuit"] "own_sizes" (uVar 0) (uVar 3))
    (uSeq (uSetF [He.ga KF "Circuit"] "looking" (uVar 0) (uVar 4))
    (uSetF [He.ga KF "Circuit"] "own_cells" (uVar 0) (uLc (uEnK 0 (uCons (uVar 2) uNil)) [5, 6] (uGTup 2 (uGCons (uName 5) (uGCons (uName 6) uGNil))) (uTru (uCall (sp_is_cell KF) [] (uCons (uVar 6) uNil))) (uVar 5))))))) (endsOf S K X) [some (.cell n), some (.str z), some d, some (.cell S.length), some (.cell (S.length + 1)), x5, x6, x7, x8] (stL S z.length ls) := by
  have szl : sizeLine = 16777216 := rfl
  have hnl := (List.getElem?_eq_some_iff.mp hn).1
  have hset : ∀ {x : Dat} {R : Store}, ((S ++ R).set n x) = S.set n x ++ R := fun {x R} => by rw [List.set_append_left _ _ hnl]
  have hget : ∀ {x : Dat} {R : Store}, (S.set n x ++ R)[n]? = some x := fun {x R} => by rw [List.getElem?_append_left (by rw [List.length_set]; exact hnl), List.getElem?_set_self hnl]
  have hset2 : ∀ {x y : Dat} {R : Store}, ((S.set n x ++ R).set n y) = S.set n y ++ R := fun {x y R} => by rw [List.set_append_left _ _ (by rw [List.length_set]; exact hnl), List.set_set]
  have hseq : ∀ {x : Dat} {R : Store}, seqD (S.set n x ++ R) d = some (ls.map encCL) := fun {x R} => by
    refine seq_app ?_
    cases d with
    | cell m =>
      have hne : m ≠ n := fun e => hd (by rw [e])
      simp only [seqD] at hs ⊢
      rw [List.getElem?_set_ne (Ne.symm hne)]; exact hs
    | tup ys => exact hs
    | lst ys => exact hs
    | _ => cases hs
  walk_at "w"
  refine ⟨n, He.ga KF "Circuit", [], [], rfl, by rw [List.getElem?_append_left hnl]; exact hn, List.mem_cons_self, by decide, ?_⟩
  rw [hset]
  walk_at "w"
  refine x_list hseq ?_
  walk_at "w"
  refine ⟨n, He.ga KF "Circuit", ["own_alphabet"], [.str z], rfl, hget, List.mem_cons_self, by decide, ?_⟩
  rw [hset2]
  walk_at "w"
  refine ⟨n, He.ga KF "Circuit", ["own_alphabet", "own_lines"], [.str z, .lst (ls.map encCL)], rfl, hget, List.mem_cons_self, by decide, ?_⟩
  rw [hset2]
  walk_at "w"
  refine ⟨n, He.ga KF "Circuit", ["own_alphabet", "own_lines", "own_sizes"], [.str z, .lst (ls.map encCL), .cell S.length], rfl, hget, List.mem_cons_self, by decide, ?_⟩
  rw [hset2]
  walk_at "w"
  refine ⟨ls.map encCL, seq_draw hseq, ?_⟩
  rw [enum0]
  refine lc_T (ls.zipIdx 0) (fun p => .tup [.int ((p.2 : Nat) : Int), encCL p.1]) (p := fun p => isCell p.1) (f := fun p => natD p.2) (seq_draw hseq) (by rw [List.length_zipIdx]; omega) (fun p hp Kt Kf hk1 hk2 => ?_) ?_
  · dsimp only [wipeD, List.set_cons_succ, List.set_cons_zero]
    walk_at "w"
    refine x_ite (fun e => ?_) (fun e => ?_)
    · walk_at "w"
      exact hk1 e
    · exact hk2 e
  rw [cells_lc]
  refine ⟨n, He.ga KF "Circuit", ["own_alphabet", "own_lines", "own_sizes", "looking"], [.str z, .lst (ls.map encCL), .cell S.length, .cell (S.length + 1)], rfl, hget, List.mem_cons_self, by decide, ?_⟩
  rw [hset2]
  show ExitTo S K .non (S.set n (.ins (He.ga KF "Circuit") cirNs [.str z, .lst (ls.map encCL), .cell S.length, .cell (S.length + 1), .lst (natDs (cellsOf ls))]) ++ [.lst (natDs (szOf z.length ls)), .lst ((lkOf ls).map Dat.bl)])
  refine ⟨_, .non, ⟨⟨[], (List.append_nil _).symm⟩, by simp, .inr ?_⟩, .same (by simp only [below]), k⟩
  rw [List.length_append, List.length_set]
  refine belows_app (belows_set (hb0.mono (by omega)) ?_) ?_
  · simp only [below, belows, List.length_cons, List.length_nil, and_true, true_and]
    exact ⟨lines_below _, by omega, by omega, nats_below' _⟩
  · simp only [below, belows, and_true]
    exact ⟨nats_below' _, bls_below _⟩
theorem tyS_app {S R : Store} {d : Dat} {t : String} (h : tyS S d = some t) : tyS (S ++ R) d = some t := by
  cases d with
  | cell n =>
    simp only [tyS] at h ⊢
    have hn : n < S.length := by
      apply Classical.byContradiction
      intro hn
      rw [List.getElem?_eq_none (by omega)] at h
      cases h
    rw [List.getElem?_append_left hn]; exact h
  | _ => exact h
theorem kind_app {S R : Store} {d : Dat} (h : okKind S d) : okKind (S ++ R) d := let ⟨t, e, m⟩ := h; ⟨t, tyS_app e, m⟩
theorem deep_app {S R : Store} : ∀ {k : Nat} {d : Dat}, okDeep S k d → okDeep (S ++ R) k d
  | 0, _, h => kind_app h
  | _ + 1, _, h => ⟨kind_app h.1, fun xs e => ⟨(h.2 xs e).1, fun x hx => deep_app ((h.2 xs e).2 x hx)⟩⟩
theorem r_Circuit_init {KF : PySem.W.Frag} {ds S K X} (h : sp_Circuit_init KF ds S K X) (hb : belows S.length ds) (hS : belows S.length S) : u_Circuit_init KF (endsOf S K X) (startD ["self", "alphabet", "lines", "found", "looking", "at", "line", "size", "ref"] ds) S := by
  obtain ⟨n, av, d, rfl, hn, h⟩ := h
  have szl : sizeLine = 16777216 := rfl
  have hnl := (List.getElem?_eq_some_iff.mp hn).1
  simp only [belows] at hb
  obtain ⟨hb0, hb1, hb2, _⟩ := hb
  show u_Circuit_init KF (endsOf S K X) [some (.cell n), some av, some d, none, none, none, none, none, none] S
  have ex : ∀ {C f : Str} {v : Dat} {dl : Env'}, below S.length v → X (excG KF C f v) S → (endsOf S K X).ex (excG KF C f v) dl S := fun hv k => exitX_here (dl := []) (by simp only [belows, below]; exact ⟨True.intro, hv, True.intro⟩) k
  have exA : ∀ {C f : Str} {v : Dat} {dl : Env'} {R : Store}, below S.length v → X (excG KF C f v) S → (endsOf S K X).ex (excG KF C f v) dl (S ++ R) := fun hv k => exitX_pure (dl := []) (by simp only [belows, below]; exact ⟨True.intro, hv, True.intro⟩) k
  have exT : ∀ {s : Str} {m : Int} {dl : Env'}, X (excTM KF s m) S → (endsOf S K X).ex (excTM KF s m) dl S := fun k => exitX_here (dl := []) (by simp only [belows, below, and_true]) k
  rw [bodyL_eq]
  walk_at "w"
  cases h with
  | alpha ha k =>
    refine ⟨_, rfl, .inr ⟨ha, ?_⟩⟩
    exact ex hb1 k
  | noseq z e hz hal hs k =>
    subst e
    obtain ⟨t, ht, htn, h1, h2⟩ := hs
    refine alpha_good hz hal ?_
    walk_at "w"
    refine x_isi2 ht (by decide) (by decide) ?_
    rw [show (isB t "list" || isB t "tuple") = false by simp [isB, h1, h2]]
    walk_at "w"
    exact ex (by simp only [below]) k
  | empty z e hz hal hs k =>
    subst e
    refine alpha_good hz hal ?_
    walk_at "w"
    refine isi_seq hs ?_
    walk_at "w"
    refine x_lenL hs ?_
    walk_at "w"
    exact ex (by simp only [below]) k
  | many z rs e hz hal hs hl hl2 k =>
    subst e
    refine alpha_good hz hal ?_
    walk_at "w"
    have fin : ∀ {dl : Env'} {D : DEnds}, D.ex = (endsOf S K X).ex → D.ex (excTM KF "lines" 4000) dl S := fun e => by rw [e]; exact exT k
    refine isi_seq hs ?_
    walk_at "w"
    refine x_lenL hs ?_
    walk_at "w"
    refine x_iteF2 (decide_eq_false (by omega)) ?_
    walk_at "w"
    refine x_lenL hs ?_
    walk_at "w"
    refine x_iteT2 (decide_eq_true (by omega)) ?_
    walk_at "w"
    refine x_rz2 (by decide) ?_
    exact fin rfl
  | line z ls r rs e hz hal hs hl hok hr hr1 hno k =>
    subst e
    obtain ⟨h4, h0, _⟩ := alpha_len hal
    have hpos := sz_pos (w := z.length) ⟨h0, by omega⟩ hok
    refine alpha_good hz hal ?_
    walk_at "w"
    refine isi_seq hs ?_
    walk_at "w"
    refine x_lenL hs ?_
    walk_at "w"
    refine x_iteF2 (decide_eq_false (by simp; omega)) ?_
    walk_at "w"
    refine x_lenL hs ?_
    walk_at "w"
    refine x_iteF2 (decide_eq_false (by simp; omega)) ?_
    walk_at "w"
    rw [st_two]
    refine ⟨_, draw_app hs, ?_⟩
    rw [enumI]
    have hdr : ∀ {R : Store}, drawD (S ++ R) d = some (ls.map encCL ++ r :: rs) := draw_app hs
    refine for_T _ _ (fun pre dl1 S2 => pre.length ≤ ls.length ∧ ∃ x5 x6 x7 x8, dl1 = [some (.cell n), some (.str z), some d, some (.cell S.length), some (.cell (S.length + 1)), x5, x6, x7, x8] ∧ S2 = stL S z.length (ls.take pre.length)) ?_ ?_ ?_ ?_
    · exact ⟨Nat.zero_le _, _, _, _, _, by rw [show (S ++ [Dat.lst []]).length = S.length + 1 by simp], rfl⟩
    · rintro pre _ _ ⟨_, _, _, _, _, _, rfl⟩; exact hdr
    · rintro pre ⟨r', j⟩ rest dl1 S2 hx ⟨hp, x5, x6, x7, x8, rfl, rfl⟩
      obtain ⟨rfl, hj⟩ := zipI_split hx
      by_cases hlt : pre.length < ls.length
      · rw [List.getElem?_append_left (by rw [List.length_map]; exact hlt), List.getElem?_map, List.getElem?_eq_getElem hlt] at hj
        simp only [Option.map_some, Option.some.injEq] at hj
        subst hj
        have htk : (ls.take pre.length).length = pre.length := by rw [List.length_take]; omega
        have hsplit : ls.take pre.length ++ [ls[pre.length]] = ls.take (pre.length + 1) := by rw [List.take_append_getElem]
        have okp : okCs z.length (ls.take pre.length) := okCs_pre (rest := ls.drop pre.length) (by rw [List.take_append_drop]; exact hok)
        have okl : okCL (szOf z.length (ls.take pre.length)) ls[pre.length] := by
          have := hok pre.length _ (List.getElem?_eq_getElem hlt)
          unfold szOf at this ⊢
          rwa [List.map_take]
        walk_at "w"
        refine bodyL_good htk.symm hz hal okp okl (by omega) fun y5 y6 y7 y8 => ?_
        exact .inl ⟨by simp; omega, y5, y6, y7, y8, rfl, by rw [hsplit]; simp⟩
      · have hpl : pre.length = ls.length := by omega
        rw [hpl, List.getElem?_append_right (by rw [List.length_map]; omega), List.length_map, Nat.sub_self] at hj
        simp only [List.getElem?_cons_zero, Option.some.injEq] at hj
        subst hj
        rw [hpl, List.take_length]
        walk_at "w"
        unfold bodyL
        walk_at "w"
        refine x_lenS (by omega) ?_
        walk_at "w"
        have hsq : seqD (stL S z.length ls) (.cell S.length) = some (natDs (szOf z.length ls)) := by simp only [seqD, st2a]
        have hrd : okDeep (stL S z.length ls) 3 r := deep_app hr
        refine ⟨hrd, hr1, hsq, by unfold szOf; rw [List.length_map]; omega, hpos, ?_⟩
        rw [hno]
        simp only [Option.map_none, optN]
        walk_at "w"
        exact exA (by simp only [below]) k
    · rintro dl1 S2 ⟨hp, _⟩
      rw [List.length_zipIdx] at hp
      simp at hp
      omega
  | looks z ls e hz hal hs h0 hl hok hlk k =>
    subst e
    obtain ⟨h4, h0a, _⟩ := alpha_len hal
    refine alpha_good hz hal ?_
    walk_at "w"
    refine isi_seq hs ?_
    walk_at "w"
    refine x_lenL hs ?_
    walk_at "w"
    refine x_iteF2 (decide_eq_false (by rw [List.length_map]; omega)) ?_
    walk_at "w"
    refine x_lenL hs ?_
    walk_at "w"
    refine x_iteF2 (decide_eq_false (by rw [List.length_map]; omega)) ?_
    walk_at "w"
    rw [st_two]
    refine ⟨_, draw_app hs, ?_⟩
    rw [enum0]
    have hdr : ∀ {R : Store}, drawD (S ++ R) d = some (ls.map encCL) := draw_app hs
    refine for_T _ _ (fun pre dl1 S2 => ∃ x5 x6 x7 x8, dl1 = [some (.cell n), some (.str z), some d, some (.cell S.length), some (.cell (S.length + 1)), x5, x6, x7, x8] ∧ S2 = stL S z.length (ls.take pre.length)) ?_ ?_ ?_ ?_
    · exact ⟨_, _, _, _, by rw [show (S ++ [Dat.lst []]).length = S.length + 1 by simp], rfl⟩
    · rintro pre _ _ ⟨_, _, _, _, _, rfl⟩; exact hdr
    · rintro pre ⟨l, j⟩ rest dl1 S2 hx ⟨x5, x6, x7, x8, rfl, rfl⟩
      obtain ⟨rfl, hj⟩ := zipI_split hx
      obtain ⟨hlt, hj2⟩ := List.getElem?_eq_some_iff.mp hj
      subst hj2
      have htk : (ls.take pre.length).length = pre.length := by rw [List.length_take]; omega
      have hsplit : ls.take pre.length ++ [ls[pre.length]] = ls.take (pre.length + 1) := by rw [List.take_append_getElem]
      have okp : okCs z.length (ls.take pre.length) := okCs_pre (rest := ls.drop pre.length) (by rw [List.take_append_drop]; exact hok)
      have okl : okCL (szOf z.length (ls.take pre.length)) ls[pre.length] := by
        have := hok pre.length _ (List.getElem?_eq_getElem hlt)
        unfold szOf at this ⊢
        rwa [List.map_take]
      walk_at "w"
      refine bodyL_good htk.symm hz hal okp okl (by omega) fun y5 y6 y7 y8 => ?_
      exact .inl ⟨y5, y6, y7, y8, rfl, by rw [hsplit]; simp⟩
    · rintro dl1 S2 ⟨x5, x6, x7, x8, rfl, rfl⟩
      rw [List.length_zipIdx, List.take_length]
      walk_at "w"
      refine x_ixL (xs := (lkOf ls).map Dat.bl) (by simp only [seqD, st2b]) (last_lk hlk) ?_
      walk_at "w"
      refine x_lenL (seq_app hs) ?_
      walk_at "w"
      rw [List.length_map, show ((ls.length : Int) - 1) = ((ls.length - 1 : Nat) : Int) by omega]
      exact exA (by simp only [below]) k
  | made z ls e hz hal hs h0 hl hok hlk hd k =>
    subst e
    obtain ⟨h4, h0a, _⟩ := alpha_len hal
    refine alpha_good hz hal ?_
    walk_at "w"
    refine isi_seq hs ?_
    walk_at "w"
    refine x_lenL hs ?_
    walk_at "w"
    refine x_iteF2 (decide_eq_false (by rw [List.length_map]; omega)) ?_
    walk_at "w"
    refine x_lenL hs ?_
    walk_at "w"
    refine x_iteF2 (decide_eq_false (by rw [List.length_map]; omega)) ?_
    walk_at "w"
    rw [st_two]
    refine ⟨_, draw_app hs, ?_⟩
    rw [enum0]
    have hdr : ∀ {R : Store}, drawD (S ++ R) d = some (ls.map encCL) := draw_app hs
    refine for_T _ _ (fun pre dl1 S2 => ∃ x5 x6 x7 x8, dl1 = [some (.cell n), some (.str z), some d, some (.cell S.length), some (.cell (S.length + 1)), x5, x6, x7, x8] ∧ S2 = stL S z.length (ls.take pre.length)) ?_ ?_ ?_ ?_
    · exact ⟨_, _, _, _, by rw [show (S ++ [Dat.lst []]).length = S.length + 1 by simp], rfl⟩
    · rintro pre _ _ ⟨_, _, _, _, _, rfl⟩; exact hdr
    · rintro pre ⟨l, j⟩ rest dl1 S2 hx ⟨x5, x6, x7, x8, rfl, rfl⟩
      obtain ⟨rfl, hj⟩ := zipI_split hx
      obtain ⟨hlt, hj2⟩ := List.getElem?_eq_some_iff.mp hj
      subst hj2
      have htk : (ls.take pre.length).length = pre.length := by rw [List.length_take]; omega
      have hsplit : ls.take pre.length ++ [ls[pre.length]] = ls.take (pre.length + 1) := by rw [List.take_append_getElem]
      have okp : okCs z.length (ls.take pre.length) := okCs_pre (rest := ls.drop pre.length) (by rw [List.take_append_drop]; exact hok)
      have okl : okCL (szOf z.length (ls.take pre.length)) ls[pre.length] := by
        have := hok pre.length _ (List.getElem?_eq_getElem hlt)
        unfold szOf at this ⊢
        rwa [List.map_take]
      walk_at "w"
      refine bodyL_good htk.symm hz hal okp okl (by omega) fun y5 y6 y7 y8 => ?_
      exact .inl ⟨y5, y6, y7, y8, rfl, by rw [hsplit]; simp⟩
    · rintro dl1 S2 ⟨x5, x6, x7, x8, rfl, rfl⟩
      rw [List.length_zipIdx, List.take_length]
      walk_at "w"
      refine x_ixL (xs := (lkOf ls).map Dat.bl) (by simp only [seqD, st2b]) (last_lk hlk) ?_
      walk_at "w"
      exact init_end hn hs hd hl hS k
end DL
namespace DL
open PySem L2
local macro_rules | `(tactic| walk_at "sm") => `(tactic| (repeat (first | exact same_str | exact same_int | exact same_non | exact same_bl | ((with_reducible refine same_tA ?_ ?_); · rfl) | ((with_reducible refine same_lA ?_ ?_); · rfl) | with_reducible exact All2.nil | with_reducible refine All2.cons ?_ ?_ | with_reducible assumption)))
local macro_rules | `(tactic| walk_at "p") => `(tactic| (repeat (first | with_reducible refine ma_and (by assumption) ?_ | ((with_reducible refine And.intro ?_ ?_); (next => first | with_reducible assumption | rfl | decide | omega)) | with_reducible apply Exists.intro)))
local macro_rules | `(tactic| walk_at "w") => `(tactic| (repeat (first
  | with_reducible refine Step.h ?_ | ((with_reducible refine x_putL ?_ ?_); · rfl) | ((with_reducible refine x_name ?_ ?_); · exact of_decide_eq_true rfl) | ((with_reducible refine x_gtup ?_ ?_); · rfl) | ((with_reducible refine x_szL ?_ ?_); · rfl) | dsimp only [List.set_cons_succ, List.set_cons_zero]
  | ((with_reducible refine Open.h ?_); (repeat (first | with_reducible refine ma_and (by assumption) ?_ | ((with_reducible refine And.intro ?_ ?_); (next => first | with_reducible assumption | rfl | decide | omega)) | with_reducible apply Exists.intro))) | ((with_reducible refine x_is ?_ ?_); · rfl) | ((with_reducible refine x_isnot ?_ ?_); · rfl) | ((with_reducible refine x_isiD ?_ ?_ ?_); (next => rfl); (next => decide)) | ((with_reducible refine x_isiD2 ?_ ?_ ?_ ?_); (next => rfl); (next => decide); (next => decide))
  | ((with_reducible refine x_inTi ?_ ?_); · rfl) | ((with_reducible refine x_inTn ?_ ?_); · rfl) | ((with_reducible refine x_iteT2 ?_ ?_); · rfl) | ((with_reducible refine x_iteF2 ?_ ?_); · rfl) | (with_reducible first | refine mg_ma (by assumption) (by decide +kernel) ?_ | refine mg_ma1 (by assumption) (by decide +kernel) ?_ | refine pg_ma (by assumption) ?_ | refine pg_ma1 (by assumption) ?_ | refine fg_al (by assumption) ?_ | refine fg_rows (by assumption) ?_ | refine fg_start (by assumption) ?_) | ((with_reducible refine o_law_same ?_ ?_); (next => (repeat (first | exact same_str | exact same_int | exact same_non | exact same_bl | ((with_reducible refine same_tA ?_ ?_); · rfl) | ((with_reducible refine same_lA ?_ ?_); · rfl) | with_reducible exact All2.nil | with_reducible refine All2.cons ?_ ?_ | with_reducible assumption)); done))
  | (with_reducible refine x_rz1 ?_) | (with_reducible refine x_rz0 ?_) | ((with_reducible refine rt_here ?_ ?_); (next => first | ((simp only [below, nats_below', encRow]); done) | with_reducible assumption)) | (with_reducible refine nx_here ?_) | rw [cutD_one])))
theorem isCell_any {l : CL} : anyStr (nameCL l) [.str "latch", .str "counter"] = isCell l := by
  cases l <;> (first | rfl | decide)
theorem r_law_begin {KF : PySem.W.Frag} {ds S K X} (h : sp_law_begin KF ds S K X) (hb : belows S.length ds) (hS : belows S.length S) : u_law_begin KF (endsOf S K X) (startD ["_law_lines_here", "_law_line_here"] ds) S := by
  have szl : sizeLine = 16777216 := rfl
  obtain ⟨ls, rfl, hl, k⟩ := h
  show u_law_begin KF (endsOf S K X) [some (.lst (ls.map encCL)), none] S
  unfold u_law_begin
  walk_at "w"
  refine ⟨ls.map encCL, rfl, ?_⟩
  refine lc_M ls encCL (f := fun l => natD (firstCL l)) rfl (by omega) (fun l hm Kt Kf hk => ?_) ?_
  · dsimp only [wipeD, List.set_cons_succ, List.set_cons_zero]
    walk_at "w"
    refine head_ix ?_
    walk_at "w"
    rw [isCell_any]
    cases hc : isCell l with
    | true =>
      walk_at "w"
      exact cell_ix hc hk
    | false =>
      walk_at "w"
      cases l <;> first | exact hk | cases hc
  walk_at "w"
  refine x_tuple rfl ?_
  walk_at "w"
  have : (ls.map fun l => natD (firstCL l)) = natDs (firstF ls) := by
    unfold firstF
    show _ = List.map (fun n : Nat => Dat.int (n : Int)) (List.map _ _)
    rw [List.map_map]; rfl
  refine rt_here ?_ ?_
  · rw [this]; simp only [below]; exact nats_below' _
  · rw [this]; exact k
theorem line_ix {S : Store} {D : KE} {ls : List CL} {i : Nat} {l : CL} (hl : ls[i]? = some l) (h : D (encCL l) S) : gIx (.lst (ls.map encCL)) (natD i) S D := x_ixn (xs := ls.map encCL) rfl (y := encCL l) (by rw [List.getElem?_map, hl]; rfl) h
end DL
namespace DL
open PySem L2
local macro_rules | `(tactic| walk_at "sm") => `(tactic| (repeat (first | exact same_str | exact same_int | exact same_non | exact same_bl | ((with_reducible refine same_tA ?_ ?_); · rfl) | ((with_reducible refine same_lA ?_ ?_); · rfl) | with_reducible exact All2.nil | with_reducible refine All2.cons ?_ ?_ | with_reducible assumption)))
local macro_rules | `(tactic| walk_at "p") => `(tactic| (repeat (first | with_reducible refine ma_and (by assumption) ?_ | ((with_reducible refine And.intro ?_ ?_); (next => first | with_reducible assumption | rfl | decide | omega)) | with_reducible apply Exists.intro)))
local macro_rules | `(tactic| walk_at "w") => `(tactic| (repeat (first
  | with_reducible refine Step.h ?_ | ((with_reducible refine x_putL ?_ ?_); · rfl) | ((with_reducible refine x_name ?_ ?_); · exact of_decide_eq_true rfl) | ((with_reducible refine x_gtup ?_ ?_); · rfl) | ((with_reducible refine x_szL ?_ ?_); · rfl) | dsimp only [List.set_cons_succ, List.set_cons_zero]
  | ((with_reducible refine Open.h ?_); (repeat (first | with_reducible refine ma_and (by assumption) ?_ | ((with_reducible refine And.intro ?_ ?_); (next => first | with_reducible assumption | rfl | decide | omega)) | with_reducible apply Exists.intro))) | ((with_reducible refine x_is ?_ ?_); · rfl) | ((with_reducible refine x_isnot ?_ ?_); · rfl) | ((with_reducible refine x_isiD ?_ ?_ ?_); (next => rfl); (next => decide)) | ((with_reducible refine x_isiD2 ?_ ?_ ?_ ?_); (next => rfl); (next => decide); (next => decide))
  | ((with_reducible refine x_inTi ?_ ?_); · rfl) | ((with_reducible refine x_inTn ?_ ?_); · rfl) | ((with_reducible refine x_iteT2 ?_ ?_); · rfl) | ((with_reducible refine x_iteF2 ?_ ?_); · rfl) | (with_reducible first | refine mg_ma (by assumption) (by decide +kernel) ?_ | refine mg_ma1 (by assumption) (by decide +kernel) ?_ | refine pg_ma (by assumption) ?_ | refine pg_ma1 (by assumption) ?_ | refine fg_al (by assumption) ?_ | refine fg_rows (by assumption) ?_ | refine fg_start (by assumption) ?_) | ((with_reducible refine o_law_same ?_ ?_); (next => (repeat (first | exact same_str | exact same_int | exact same_non | exact same_bl | ((with_reducible refine same_tA ?_ ?_); · rfl) | ((with_reducible refine same_lA ?_ ?_); · rfl) | with_reducible exact All2.nil | with_reducible refine All2.cons ?_ ?_ | with_reducible assumption)); done))
  | (with_reducible refine x_rz1 ?_) | (with_reducible refine x_rz0 ?_) | ((with_reducible refine rt_here ?_ ?_); (next => first | ((simp only [below, nats_below', encRow]); done) | with_reducible assumption)) | (with_reducible refine nx_here ?_) | rw [cutD_one])))
theorem range_at {n i : Nat} {pre rest : List Nat} (hx : List.range n = pre ++ i :: rest) : i = pre.length ∧ i < n := by
  have h1 : (List.range n)[pre.length]? = some i := by rw [hx]; simp
  obtain ⟨h2, h3⟩ := List.getElem?_eq_some_iff.mp h1
  rw [List.getElem_range] at h3
  rw [List.length_range] at h2
  omega
theorem st_takes {ls : List CL} {full : List Nat} {i : Nat} {l : CL} {x : Nat} (hl : ls[i]? = some l) (hx : full[i]? = some x) (c : Nat) : valsF (ls.take (i + 1)) (full.take (i + 1)) c = valsF (ls.take i) (full.take i) c ++ [if isCell l then x else valueL l (valsF (ls.take i) (full.take i) c) c] := by
  obtain ⟨h1, h2⟩ := List.getElem?_eq_some_iff.mp hl
  obtain ⟨h3, h4⟩ := List.getElem?_eq_some_iff.mp hx
  rw [← List.take_append_getElem h1, ← List.take_append_getElem h3, h2, h4]
  exact valsF_snoc (by rw [List.length_take, List.length_take]; omega)
theorem take_full {w i : Nat} {ls : List CL} {full : List Nat} (h : okFull w ls full) : okFull w (ls.take i) (full.take i) := by
  refine ⟨by rw [List.length_take, List.length_take, h.1], fun j l x e1 e2 => h.2 j l x ?_ ?_⟩
  · rw [List.getElem?_take] at e1; split at e1; exact e1; cases e1
  · rw [List.getElem?_take] at e2; split at e2; exact e2; cases e2
theorem take_ok {w i : Nat} {ls : List CL} (h : okCs w ls) : okCs w (ls.take i) := okCs_pre (rest := ls.drop i) (by rw [List.take_append_drop]; exact h)
theorem r_law_values {KF : PySem.W.Frag} {ds S K X} (h : sp_law_values KF ds S K X) (hb : belows S.length ds) (hS : belows S.length S) : u_law_values KF (endsOf S K X) (startD ["_law_lines_here", "_law_sides", "_law_letter", "_law_found", "_law_at", "_law_line_here"] ds) S := by
  have szl : sizeLine = 16777216 := rfl
  obtain ⟨w, ls, sd, full, c, rfl, hn, ok, hl, hf, hc, k⟩ := h
  show u_law_values KF (endsOf S K X) [some (.lst (ls.map encCL)), some sd, some (natD c), none, none, none] S
  unfold u_law_values
  walk_at "w"
  refine x_lenL (xs := ls.map encCL) rfl ?_
  rw [List.length_map]
  refine ⟨⟨by omega, by omega⟩, ?_⟩
  rw [show ((ls.length : Nat) : Int).toNat = ls.length by omega, rangeD0]
  refine for_T (List.range ls.length) (fun n : Nat => natD n) (fun pre dl1 S2 => ∃ x4 x5, dl1 = [some (.lst (ls.map encCL)), some sd, some (natD c), some (.cell S.length), x4, x5] ∧ S2 = S ++ [.lst (natDs (valsF (ls.take pre.length) (full.take pre.length) c))]) ?_ ?_ ?_ ?_
  · exact ⟨_, _, rfl, rfl⟩
  · intros; trivial
  · rintro pre i rest dl1 S2 hx ⟨x4, x5, rfl, rfl⟩
    obtain ⟨rfl, hi⟩ := range_at hx
    obtain ⟨l, hl2⟩ : ∃ l, ls[pre.length]? = some l := ⟨_, List.getElem?_eq_getElem hi⟩
    obtain ⟨x, hx2⟩ : ∃ x, full[pre.length]? = some x := ⟨_, List.getElem?_eq_getElem (by rw [hf.1]; exact hi)⟩
    have hst := st_takes hl2 hx2 c
    obtain ⟨v1, v2⟩ := valsF_low hc (take_ok (i := pre.length) ok) (take_full (i := pre.length) hf)
    rw [List.length_take, Nat.min_eq_left (by omega)] at v1
    have lv : lowV w ls (valsF (ls.take pre.length) (full.take pre.length) c) := fun j v hv => by
      obtain ⟨s, h1, h2⟩ := v2 j v hv
      unfold szOf at h1 ⊢
      rw [List.map_take] at h1
      exact ⟨s, (at_take h1).2, h2⟩
    have fin : ∀ y5 : Option Dat, ∀ v : Nat, v = (if isCell l then x else valueL l (valsF (ls.take pre.length) (full.take pre.length) c) c) → gAppend (.cell S.length) [natD v] (S ++ [.lst (natDs (valsF (ls.take pre.length) (full.take pre.length) c))]) (fun _ S1 => (GcTo (List.length (S ++ [Dat.lst []])) fun dl' S' => ∃ x4 x5, dl' = [some (.lst (ls.map encCL)), some sd, some (natD c), some (.cell S.length), x4, x5] ∧ S' = S ++ [.lst (natDs (valsF (ls.take (pre ++ [pre.length]).length) (full.take (pre ++ [pre.length]).length) c))]) [some (.lst (ls.map encCL)), some sd, some (natD c), some (.cell S.length), some (natD pre.length), y5] S1) := fun y5 v hv => by
      refine x_append st1a (by rw [List.length_map]; omega) ?_
      rw [st1sa]
      refine .inl ⟨_, _, rfl, ?_⟩
      rw [List.length_append, List.length_singleton, hst, ← hv, natDs_snoc]
    have hfd : seqD (S ++ [.lst (natDs (valsF (ls.take pre.length) (full.take pre.length) c))]) (.cell S.length) = some (natDs (valsF (ls.take pre.length) (full.take pre.length) c)) := by simp only [seqD, st1a]
    have hside : nats (S ++ [.lst (natDs (valsF (ls.take pre.length) (full.take pre.length) c))]) sd full := seq_app hn
    have okl := ok _ _ hl2
    walk_at "w"
    refine line_ix hl2 ?_
    walk_at "w"
    refine head_ix ?_
    walk_at "w"
    cases hcl : isCell l with
    | true =>
      have e : ∀ v, v = x → v = (if isCell l then x else valueL l (valsF (ls.take pre.length) (full.take pre.length) c) c) := fun v h => by rw [hcl]; exact h
      cases l with
      | latch n f r =>
        dsimp only [encCL]
        walk_at "w"
        refine ⟨isT_list st1a, ?_⟩
        walk_at "w"
        refine seq_ix hside hx2 ?_
        exact fin _ _ (e _ rfl)
      | counter n f r =>
        dsimp only [encCL]
        walk_at "w"
        refine ⟨isT_list st1a, ?_⟩
        walk_at "w"
        refine seq_ix hside hx2 ?_
        exact fin _ _ (e _ rfl)
      | _ => cases hcl
    | false =>
      obtain ⟨w1, w2, _⟩ := value_ok hc hl2 okl lv v1 hcl
      have e : ∀ v, v = valueL l (valsF (ls.take pre.length) (full.take pre.length) c) c → v = (if isCell l then x else valueL l (valsF (ls.take pre.length) (full.take pre.length) c) c) := fun v h => by rw [hcl]; exact h
      cases l with
      | const n =>
        dsimp only [encCL]
        walk_at "w"
        refine ⟨isT_list st1a, ?_⟩
        walk_at "w"
        exact fin _ _ (e _ rfl)
      | letter =>
        dsimp only [encCL]
        walk_at "w"
        refine ⟨isT_list st1a, ?_⟩
        walk_at "w"
        exact fin _ _ (e _ rfl)
      | wire r t =>
        obtain ⟨v, hv, hvt⟩ := w1 r t rfl
        dsimp only [encCL]
        walk_at "w"
        refine ⟨isT_list st1a, ?_⟩
        walk_at "w"
        refine seq_ix hfd hv ?_
        refine seq_ix (ns := t) rfl (getD_some hvt) ?_
        walk_at "w"
        exact fin _ _ (e _ (by show t.getD v 0 = t.getD (_ : Nat) 0; rw [gd hv]))
      | join r q t =>
        obtain ⟨v, u, hv, hu, hvt, hut⟩ := w2 r q t rfl
        have e1 : t.getD v [] = t[v] := by rw [List.getD, List.getElem?_eq_getElem hvt]; rfl
        dsimp only [encCL]
        walk_at "w"
        refine ⟨isT_list st1a, ?_⟩
        walk_at "w"
        refine seq_ix hfd hv ?_
        refine x_ixn (xs := t.map encRow) rfl (y := encRow t[v]) (by rw [List.getElem?_map, List.getElem?_eq_getElem hvt]; rfl) ?_
        walk_at "w"
        refine seq_ix hfd hu ?_
        refine seq_ix (ns := t[v]) rfl (getD_some (hut _ (List.getElem_mem hvt))) ?_
        walk_at "w"
        exact fin _ _ (e _ (by show t[v].getD u 0 = (t.getD (_ : Nat) []).getD (_ : Nat) 0; rw [gd hv, gd hu, e1]))
      | _ => cases hcl
  · rintro dl1 S2 ⟨x4, x5, rfl, rfl⟩
    rw [List.length_range, List.take_length, show full.take ls.length = full by rw [← hf.1, List.take_length]]
    walk_at "w"
    exact ⟨S, .lst (natDs (valsF ls full c)), ⟨⟨_, rfl⟩, Nat.le_refl _, .inl rfl⟩, .cell (Nat.le_refl _) st1a (.same (by simp only [below]; exact nats_below' _)), k⟩
end DL
namespace DL
open PySem L2
local macro_rules | `(tactic| walk_at "sm") => `(tactic| (repeat (first | exact same_str | exact same_int | exact same_non | exact same_bl | ((with_reducible refine same_tA ?_ ?_); · rfl) | ((with_reducible refine same_lA ?_ ?_); · rfl) | with_reducible exact All2.nil | with_reducible refine All2.cons ?_ ?_ | with_reducible assumption)))
local macro_rules | `(tactic| walk_at "p") => `(tactic| (repeat (first | with_reducible refine ma_and (by assumption) ?_ | ((with_reducible refine And.intro ?_ ?_); (next => first | with_reducible assumption | rfl | decide | omega)) | with_reducible apply Exists.intro)))
local macro_rules | `(tactic| walk_at "w") => `(tactic| (repeat (first
  | with_reducible refine Step.h ?_ | ((with_reducible refine x_putL ?_ ?_); · rfl) | ((with_reducible refine x_name ?_ ?_); · exact of_decide_eq_true rfl) | ((with_reducible refine x_gtup ?_ ?_); · rfl) | ((with_reducible refine x_szL ?_ ?_); · rfl) | dsimp only [List.set_cons_succ, List.set_cons_zero]
  | ((with_reducible refine Open.h ?_); (repeat (first | with_reducible refine ma_and (by assumption) ?_ | ((with_reducible refine And.intro ?_ ?_); (next => first | with_reducible assumption | rfl | decide | omega)) | with_reducible apply Exists.intro))) | ((with_reducible refine x_is ?_ ?_); · rfl) | ((with_reducible refine x_isnot ?_ ?_); · rfl) | ((with_reducible refine x_isiD ?_ ?_ ?_); (next => rfl); (next => decide)) | ((with_reducible refine x_isiD2 ?_ ?_ ?_ ?_); (next => rfl); (next => decide); (next => decide))
  | ((with_reducible refine x_inTi ?_ ?_); · rfl) | ((with_reducible refine x_inTn ?_ ?_); · rfl) | ((with_reducible refine x_iteT2 ?_ ?_); · rfl) | ((with_reducible refine x_iteF2 ?_ ?_); · rfl) | (with_reducible first | refine mg_ma (by assumption) (by decide +kernel) ?_ | refine mg_ma1 (by assumption) (by decide +kernel) ?_ | refine pg_ma (by assumption) ?_ | refine pg_ma1 (by assumption) ?_ | refine fg_al (by assumption) ?_ | refine fg_rows (by assumption) ?_ | refine fg_start (by assumption) ?_) | ((with_reducible refine o_law_same ?_ ?_); (next => (repeat (first | exact same_str | exact same_int | exact same_non | exact same_bl | ((with_reducible refine same_tA ?_ ?_); · rfl) | ((with_reducible refine same_lA ?_ ?_); · rfl) | with_reducible exact All2.nil | with_reducible refine All2.cons ?_ ?_ | with_reducible assumption)); done))
  | (with_reducible refine x_rz1 ?_) | (with_reducible refine x_rz0 ?_) | ((with_reducible refine rt_here ?_ ?_); (next => first | ((simp only [below, nats_below', encRow]); done) | with_reducible assumption)) | (with_reducible refine nx_here ?_) | rw [cutD_one])))
theorem step_at {ls : List CL} {full : List Nat} {c i x : Nat} {l : CL} (hl : ls[i]? = some l) (hx : full[i]? = some x) : (stepF ls full c)[i]? = some (if isCell l then changedL l x ((valsF ls full c).getD (refCL l) 0) else x) := by
  unfold stepF
  rw [List.getElem?_map, show (ls.zip full)[i]? = some (l, x) from List.getElem?_zip_eq_some.mpr ⟨hl, hx⟩]; rfl
theorem part_set {xs ys : List Nat} {i y : Nat} (hl : xs.length = ys.length) (hi : i < ys.length) (h : xs[i]? = some y) : (xs.take i ++ ys.drop i).set i y = xs.take (i + 1) ++ ys.drop (i + 1) := by
  obtain ⟨h1, h2⟩ := List.getElem?_eq_some_iff.mp h
  rw [List.set_append_right _ _ (by rw [List.length_take]; omega), List.length_take, Nat.min_eq_left (by omega), Nat.sub_self, List.drop_eq_getElem_cons hi, List.set_cons_zero, ← List.take_append_getElem h1, h2, List.append_assoc]; rfl
theorem part_same {xs ys : List Nat} {i y : Nat} (hl : xs.length = ys.length) (h : xs[i]? = some y) (h' : ys[i]? = some y) : xs.take i ++ ys.drop i = xs.take (i + 1) ++ ys.drop (i + 1) := by
  obtain ⟨h1, h2⟩ := List.getElem?_eq_some_iff.mp h
  obtain ⟨h3, h4⟩ := List.getElem?_eq_some_iff.mp h'
  rw [List.drop_eq_getElem_cons h3, ← List.take_append_getElem h1, h2, h4, List.append_assoc]; rfl
theorem natDs_set {xs : List Nat} {i y : Nat} : (natDs xs).set i (natD y) = natDs (xs.set i y) := by show (List.map _ xs).set i _ = List.map _ _; rw [List.map_set]
theorem ixN_nat {n i : Nat} (h : i < n) : ixN n (i : Int) = some i := by
  unfold ixN
  rw [if_pos (by omega), if_pos (by omega)]
  simp
theorem r_law_step {KF : PySem.W.Frag} {ds S K X} (h : sp_law_step KF ds S K X) (hb : belows S.length ds) (hS : belows S.length S) : u_law_step KF (endsOf S K X) (startD ["_law_lines_here", "_law_sides", "_law_letter", "_law_values_here", "_law_found", "_law_at", "_law_line_here"] ds) S := by
  have szl : sizeLine = 16777216 := rfl
  obtain ⟨w, ls, full, c, rfl, ok, hl, hf, hc, k⟩ := h
  obtain ⟨v1, v2⟩ := valsF_low hc ok hf
  have hsl : (stepF ls full c).length = full.length := by unfold stepF; rw [List.length_map, List.length_zip, hf.1]; omega
  show u_law_step KF (endsOf S K X) [some (.lst (ls.map encCL)), some (.tup (natDs full)), some (natD c), none, none, none, none] S
  unfold u_law_step
  have hn : nats S (.tup (natDs full)) full := rfl
  walk_at "w"
  refine x_listC (xs := natDs full) rfl ?_
  walk_at "w"
  refine x_lenL (xs := ls.map encCL) rfl ?_
  rw [List.length_map]
  refine ⟨⟨by omega, by omega⟩, ?_⟩
  rw [show ((ls.length : Nat) : Int).toNat = ls.length by omega, rangeD0]
  refine for_T (List.range ls.length) (fun n : Nat => natD n) (fun pre dl1 S2 => ∃ x5 x6, dl1 = [some (.lst (ls.map encCL)), some (.tup (natDs full)), some (natD c), some (.lst (natDs (valsF ls full c))), some (.cell S.length), x5, x6] ∧ S2 = S ++ [.lst (natDs ((stepF ls full c).take pre.length ++ full.drop pre.length))]) ?_ ?_ ?_ ?_
  · exact ⟨_, _, rfl, by simp⟩
  · intros; trivial
  · rintro pre i rest dl1 S2 hx ⟨x5, x6, rfl, rfl⟩
    obtain ⟨rfl, hi⟩ := range_at hx
    obtain ⟨l, hl2⟩ : ∃ l, ls[pre.length]? = some l := ⟨_, List.getElem?_eq_getElem hi⟩
    obtain ⟨x, hx2⟩ : ∃ x, full[pre.length]? = some x := ⟨_, List.getElem?_eq_getElem (by rw [hf.1]; exact hi)⟩
    have hst := step_at (c := c) hl2 hx2
    have hpl : (stepF ls full c).take pre.length ++ full.drop pre.length = (stepF ls full c).take pre.length ++ full.drop pre.length := rfl
    have hlen : ((natDs ((stepF ls full c).take pre.length ++ full.drop pre.length)).length) = ls.length := by rw [List.length_map, List.length_append, List.length_take, List.length_drop, hsl, hf.1]; omega
    have fin : ∀ y6 : Option Dat, (GcTo (List.length (S ++ [Dat.lst (natDs full)])) fun dl' S' => ∃ x5 x6, dl' = [some (.lst (ls.map encCL)), some (.tup (natDs full)), some (natD c), some (.lst (natDs (valsF ls full c))), some (.cell S.length), x5, x6] ∧ S' = S ++ [.lst (natDs ((stepF ls full c).take (pre ++ [pre.length]).length ++ full.drop (pre ++ [pre.length]).length))]) [some (.lst (ls.map encCL)), some (.tup (natDs full)), some (natD c), some (.lst (natDs (valsF ls full c))), some (.cell S.length), some (natD pre.length), y6] (S ++ [.lst (natDs ((stepF ls full c).take (pre.length + 1) ++ full.drop (pre.length + 1)))]) := fun y6 => .inl ⟨_, _, rfl, by simp⟩
    have put : ∀ (y6 : Option Dat) (y : Nat), (stepF ls full c)[pre.length]? = some y → gSetL (.cell S.length) (natD pre.length) (natD y) (S ++ [.lst (natDs ((stepF ls full c).take pre.length ++ full.drop pre.length))]) (fun S3 => (GcTo (List.length (S ++ [Dat.lst (natDs full)])) fun dl' S' => ∃ x5 x6, dl' = [some (.lst (ls.map encCL)), some (.tup (natDs full)), some (natD c), some (.lst (natDs (valsF ls full c))), some (.cell S.length), x5, x6] ∧ S' = S ++ [.lst (natDs ((stepF ls full c).take (pre ++ [pre.length]).length ++ full.drop (pre ++ [pre.length]).length))]) [some (.lst (ls.map encCL)), some (.tup (natDs full)), some (natD c), some (.lst (natDs (valsF ls full c))), some (.cell S.length), some (natD pre.length), y6] S3) := fun y6 y hy => by
      refine x_setL st1a (j := pre.length) (by rw [hlen]; exact ixN_nat hi) ?_
      rw [st1sa, natDs_set, part_set hsl (by rw [hf.1]; exact hi) hy]
      exact fin y6
    have vr : isCell l = true → (valsF ls full c)[refCL l]? = some ((valsF ls full c).getD (refCL l) 0) := fun hcl => getD_some (by have := (okCs_ref ok hl2 hcl).1; omega)
    have okl := ok _ _ hl2
    have hn2 : ∀ {Sx : Store}, nats Sx (.lst (natDs (valsF ls full c))) (valsF ls full c) := rfl
    walk_at "w"
    refine line_ix hl2 ?_
    walk_at "w"
    refine head_ix ?_
    cases l with
    | latch n f r =>
      have hv : (valsF ls full c)[r]? = some ((valsF ls full c).getD r 0) := vr rfl
      dsimp only [encCL]
      walk_at "w"
      refine seq_ix hn2 hv ?_
      walk_at "w"
      have hch : changedL (.latch n f r) x ((valsF ls full c).getD r 0) = if (valsF ls full c).getD r 0 = 0 then x else (valsF ls full c).getD r 0 - 1 := rfl
      rw [show (if isCell (CL.latch n f r) = true then changedL (.latch n f r) x ((valsF ls full c).getD (refCL (.latch n f r)) 0) else x) = changedL (.latch n f r) x ((valsF ls full c).getD r 0) from rfl, hch] at hst
      show if decide ((0 : Int) < (((valsF ls full c).getD r 0 : Nat) : Int)) = true then _ else _
      refine x_ite (fun e => ?_) (fun e => ?_)
      · have e := of_decide_eq_true e
        rw [if_neg (by omega)] at hst
        walk_at "w"
        refine seq_ix hn2 hv ?_
        walk_at "w"
        rw [show ((((valsF ls full c).getD r 0 : Nat) : Int) - 1) = (((valsF ls full c).getD r 0 - 1 : Nat) : Int) by omega]
        refine x_setL st1a (j := pre.length) (by rw [hlen]; exact ixN_nat hi) ?_
        rw [st1sa, natDs_set, part_set hsl (by rw [hf.1]; exact hi) hst]
        walk_at "w"
        exact fin _
      · have e := of_decide_eq_false e
        rw [if_pos (by omega)] at hst
        walk_at "w"
        rw [part_same hsl hst hx2]
        exact fin _
    | counter p f r =>
      have hv : (valsF ls full c)[r]? = some ((valsF ls full c).getD r 0) := vr rfl
      have hp : 0 < p := (okCs_ref ok hl2 rfl).2.1
      have hst : (stepF ls full c)[pre.length]? = some ((x + (valsF ls full c).getD r 0) % p) := hst
      dsimp only [encCL]
      walk_at "w"
      refine seq_ix (ns := full) rfl hx2 ?_
      walk_at "w"
      refine seq_ix hn2 hv ?_
      walk_at "w"
      refine x_mod (by omega) ?_
      walk_at "w"
      rw [show ((x : Int) + (((valsF ls full c).getD r 0 : Nat) : Int)) % (p : Int) = (((x + (valsF ls full c).getD r 0) % p : Nat) : Int) by rw [Int.natCast_emod, Int.natCast_add]]
      refine x_setL st1a (j := pre.length) (by rw [hlen]; exact ixN_nat hi) ?_
      rw [st1sa, natDs_set, part_set hsl (by rw [hf.1]; exact hi) hst]
      walk_at "w"
      exact fin _
    | _ =>
      dsimp only [encCL]
      walk_at "w"
      rw [part_same hsl hst hx2]
      exact fin _
  · rintro dl1 S2 ⟨x5, x6, rfl, rfl⟩
    rw [List.length_range, show (stepF ls full c).take ls.length ++ full.drop ls.length = stepF ls full c by rw [← hf.1, List.drop_length, ← hsl, List.take_length, List.append_nil]]
    walk_at "w"
    refine x_tuple (xs := natDs (stepF ls full c)) (by simp only [seqD, st1a]) ?_
    walk_at "w"
    exact exit_pure (by simp only [below]; exact nats_below' _) k
theorem r_law_run {KF : PySem.W.Frag} {ds S K X} (h : sp_law_run KF ds S K X) (hb : belows S.length ds) (hS : belows S.length S) : u_law_run KF (endsOf S K X) (startD ["_law_lines_here", "_law_signs_here", "_law_text_here", "_law_sides", "_law_sign"] ds) S := by
  have szl : sizeLine = 16777216 := rfl
  obtain ⟨ls, a, z, rfl, ha, ok, hl, hw, hz, k⟩ := h
  obtain ⟨h4, h0, _⟩ := alpha_len ha
  have hmem := word_mem hw
  show u_law_run KF (endsOf S K X) [some (.lst (ls.map encCL)), some (.str a), some (.str z), none, none] S
  unfold u_law_run
  walk_at "w"
  refine ⟨z.cps.toList.map fun c => .str (sgn c), rfl, ?_⟩
  refine for_T z.cps.toList (fun c => .str (sgn c)) (fun pre dl1 S2 => S2 = S ∧ ∃ x4, dl1 = [some (.lst (ls.map encCL)), some (.str a), some (.str z), some (.tup (natDs (runF a ls (firstF ls) pre))), x4]) ⟨rfl, _, rfl⟩ ?_ ?_ ?_
  · rintro pre dl1 S2 ⟨rfl, _⟩; rfl
  · rintro pre c rest dl1 S2 hx ⟨rfl, x4, rfl⟩
    have hc : c ∈ a.cps.toList := hmem c (by rw [hx]; simp)
    have hfull := run_full ok pre (firstF ls) (first_full ok) fun d hd => hmem d (by rw [hx]; exact List.mem_append_left _ hd)
    have hcl := idx_lt hc
    walk_at "w"
    refine ⟨rfl, ?_⟩
    walk_at "w"
    refine x_sindex hc ?_
    walk_at "w"
    exact .inl ⟨rfl, _, by rw [runF_snoc]⟩
  · rintro dl1 S2 ⟨rfl, x4, rfl⟩
    walk_at "w"
    exact k
end DL
namespace DL
open PySem L2
local macro_rules | `(tactic| walk_at "sm") => `(tactic| (repeat (first | exact same_str | exact same_int | exact same_non | exact same_bl | ((with_reducible refine same_tA ?_ ?_); · rfl) | ((with_reducible refine same_lA ?_ ?_); · rfl) | with_reducible exact All2.nil | with_reducible refine All2.cons ?_ ?_ | with_reducible assumption)))
local macro_rules | `(tactic| walk_at "p") => `(tactic| (repeat (first | with_reducible refine ma_and (by assumption) ?_ | ((with_reducible refine And.intro ?_ ?_); (next => first | with_reducible assumption | rfl | decide | omega)) | with_reducible apply Exists.intro)))
local macro_rules | `(tactic| walk_at "w") => `(tactic| (repeat (first
  | with_reducible refine Step.h ?_ | ((with_reducible refine x_putL ?_ ?_); · rfl) | ((with_reducible refine x_name ?_ ?_); · exact of_decide_eq_true rfl) | ((with_reducible refine x_gtup ?_ ?_); · rfl) | ((with_reducible refine x_szL ?_ ?_); · rfl) | dsimp only [List.set_cons_succ, List.set_cons_zero]
  | ((with_reducible refine Open.h ?_); (repeat (first | with_reducible refine ma_and (by assumption) ?_ | ((with_reducible refine And.intro ?_ ?_); (next => first | with_reducible assumption | rfl | decide | omega)) | with_reducible apply Exists.intro))) | ((with_reducible refine x_is ?_ ?_); · rfl) | ((with_reducible refine x_isnot ?_ ?_); · rfl) | ((with_reducible refine x_isiD ?_ ?_ ?_); (next => rfl); (next => decide)) | ((with_reducible refine x_isiD2 ?_ ?_ ?_ ?_); (next => rfl); (next => decide); (next => decide))
  | ((with_reducible refine x_inTi ?_ ?_); · rfl) | ((with_reducible refine x_inTn ?_ ?_); · rfl) | ((with_reducible refine x_iteT2 ?_ ?_); · rfl) | ((with_reducible refine x_iteF2 ?_ ?_); · rfl) | (with_reducible first | refine mg_ma (by assumption) (by decide +kernel) ?_ | refine mg_ma1 (by assumption) (by decide +kernel) ?_ | refine pg_ma (by assumption) ?_ | refine pg_ma1 (by assumption) ?_ | refine fg_al (by assumption) ?_ | refine fg_rows (by assumption) ?_ | refine fg_start (by assumption) ?_) | ((with_reducible refine o_law_same ?_ ?_); (next => (repeat (first | exact same_str | exact same_int | exact same_non | exact same_bl | ((with_reducible refine same_tA ?_ ?_); · rfl) | ((with_reducible refine same_lA ?_ ?_); · rfl) | with_reducible exact All2.nil | with_reducible refine All2.cons ?_ ?_ | with_reducible assumption)); done))
  | (with_reducible refine x_rz1 ?_) | (with_reducible refine x_rz0 ?_) | ((with_reducible refine rt_here ?_ ?_); (next => first | ((simp only [below, nats_below', encRow]); done) | with_reducible assumption)) | (with_reducible refine nx_here ?_) | rw [cutD_one])))
section
variable {K : PySem.W.Frag} {P : Store → Prop} {dl : Env'} {S : Store} {b m n i : Nat} {own : List Nat} {G : List Dat → Store → Prop} {bag : Dat}
end
section
variable {K : PySem.W.Frag} {P : Store → Prop} {dl : Env'} {S : Store} {b m n i r : Nat} {own : List Nat} {G : List Dat → Store → Prop} {bag : Dat}
end
theorem prime_small {u : Nat} (h : u = 2 ∨ u = 3 ∨ u = 5) : isPrime (u : Int) := by
  refine ⟨by omega, fun d h2 hd hm => ?_⟩
  have : d * d ≤ 5 := by omega
  have : d < 3 := by
    apply Classical.byContradiction
    intro hc
    have := Int.mul_le_mul (show (3 : Int) ≤ d by omega) (show (3 : Int) ≤ d by omega) (by omega) (by omega)
    omega
  have hd2 : d = 2 := by omega
  subst hd2
  rcases h with rfl | rfl | rfl <;> omega
end DL
namespace DL
open PySem L2
local macro_rules | `(tactic| walk_at "sm") => `(tactic| (repeat (first | exact same_str | exact same_int | exact same_non | exact same_bl | ((with_reducible refine same_tA ?_ ?_); · rfl) | ((with_reducible refine same_lA ?_ ?_); · rfl) | with_reducible exact All2.nil | with_reducible refine All2.cons ?_ ?_ | with_reducible assumption)))
local macro_rules | `(tactic| walk_at "p") => `(tactic| (repeat (first | with_reducible refine ma_and (by assumption) ?_ | ((with_reducible refine And.intro ?_ ?_); (next => first | with_reducible assumption | rfl | decide | omega)) | with_reducible apply Exists.intro)))
local macro_rules | `(tactic| walk_at "w") => `(tactic| (repeat (first
  | with_reducible refine Step.h ?_ | ((with_reducible refine x_putL ?_ ?_); · rfl) | ((with_reducible refine x_name ?_ ?_); · exact of_decide_eq_true rfl) | ((with_reducible refine x_gtup ?_ ?_); · rfl) | ((with_reducible refine x_szL ?_ ?_); · rfl) | dsimp only [List.set_cons_succ, List.set_cons_zero]
  | ((with_reducible refine Open.h ?_); (repeat (first | with_reducible refine ma_and (by assumption) ?_ | ((with_reducible refine And.intro ?_ ?_); (next => first | with_reducible assumption | rfl | decide | omega)) | with_reducible apply Exists.intro))) | ((with_reducible refine x_is ?_ ?_); · rfl) | ((with_reducible refine x_isnot ?_ ?_); · rfl) | ((with_reducible refine x_isiD ?_ ?_ ?_); (next => rfl); (next => decide)) | ((with_reducible refine x_isiD2 ?_ ?_ ?_ ?_); (next => rfl); (next => decide); (next => decide))
  | ((with_reducible refine x_inTi ?_ ?_); · rfl) | ((with_reducible refine x_inTn ?_ ?_); · rfl) | ((with_reducible refine x_iteT2 ?_ ?_); · rfl) | ((with_reducible refine x_iteF2 ?_ ?_); · rfl) | (with_reducible first | refine mg_ma (by assumption) (by decide +kernel) ?_ | refine mg_ma1 (by assumption) (by decide +kernel) ?_ | refine pg_ma (by assumption) ?_ | refine pg_ma1 (by assumption) ?_ | refine fg_al (by assumption) ?_ | refine fg_rows (by assumption) ?_ | refine fg_start (by assumption) ?_) | ((with_reducible refine o_law_same ?_ ?_); (next => (repeat (first | exact same_str | exact same_int | exact same_non | exact same_bl | ((with_reducible refine same_tA ?_ ?_); · rfl) | ((with_reducible refine same_lA ?_ ?_); · rfl) | with_reducible exact All2.nil | with_reducible refine All2.cons ?_ ?_ | with_reducible assumption)); done))
  | (with_reducible refine x_rz1 ?_) | (with_reducible refine x_rz0 ?_) | ((with_reducible refine rt_here ?_ ?_); (next => first | ((simp only [below, nats_below', encRow]); done) | with_reducible assumption)) | (with_reducible refine nx_here ?_) | rw [cutD_one])))
section
variable {S : Store} {b : Nat} {x y u v w : Dat}
end
end DL
namespace DL
open PySem L2
local macro_rules | `(tactic| walk_at "sm") => `(tactic| (repeat (first | exact same_str | exact same_int | exact same_non | exact same_bl | ((with_reducible refine same_tA ?_ ?_); · rfl) | ((with_reducible refine same_lA ?_ ?_); · rfl) | with_reducible exact All2.nil | with_reducible refine All2.cons ?_ ?_ | with_reducible assumption)))
local macro_rules | `(tactic| walk_at "p") => `(tactic| (repeat (first | with_reducible refine ma_and (by assumption) ?_ | ((with_reducible refine And.intro ?_ ?_); (next => first | with_reducible assumption | rfl | decide | omega)) | with_reducible apply Exists.intro)))
local macro_rules | `(tactic| walk_at "w") => `(tactic| (repeat (first
  | with_reducible refine Step.h ?_ | ((with_reducible refine x_putL ?_ ?_); · rfl) | ((with_reducible refine x_name ?_ ?_); · exact of_decide_eq_true rfl) | ((with_reducible refine x_gtup ?_ ?_); · rfl) | ((with_reducible refine x_szL ?_ ?_); · rfl) | dsimp only [List.set_cons_succ, List.set_cons_zero]
  | ((with_reducible refine Open.h ?_); (repeat (first | with_reducible refine ma_and (by assumption) ?_ | ((with_reducible refine And.intro ?_ ?_); (next => first | with_reducible assumption | rfl | decide | omega)) | with_reducible apply Exists.intro))) | ((with_reducible refine x_is ?_ ?_); · rfl) | ((with_reducible refine x_isnot ?_ ?_); · rfl) | ((with_reducible refine x_isiD ?_ ?_ ?_); (next => rfl); (next => decide)) | ((with_reducible refine x_isiD2 ?_ ?_ ?_ ?_); (next => rfl); (next => decide); (next => decide))
  | ((with_reducible refine x_inTi ?_ ?_); · rfl) | ((with_reducible refine x_inTn ?_ ?_); · rfl) | ((with_reducible refine x_iteT2 ?_ ?_); · rfl) | ((with_reducible refine x_iteF2 ?_ ?_); · rfl) | (with_reducible first | refine mg_ma (by assumption) (by decide +kernel) ?_ | refine mg_ma1 (by assumption) (by decide +kernel) ?_ | refine pg_ma (by assumption) ?_ | refine pg_ma1 (by assumption) ?_ | refine fg_al (by assumption) ?_ | refine fg_rows (by assumption) ?_ | refine fg_start (by assumption) ?_) | ((with_reducible refine o_law_same ?_ ?_); (next => (repeat (first | exact same_str | exact same_int | exact same_non | exact same_bl | ((with_reducible refine same_tA ?_ ?_); · rfl) | ((with_reducible refine same_lA ?_ ?_); · rfl) | with_reducible exact All2.nil | with_reducible refine All2.cons ?_ ?_ | with_reducible assumption)); done))
  | (with_reducible refine x_rz1 ?_) | (with_reducible refine x_rz0 ?_) | ((with_reducible refine rt_here ?_ ?_); (next => first | ((simp only [below, nats_below', encRow]); done) | with_reducible assumption)) | (with_reducible refine nx_here ?_) | rw [cutD_one])))
theorem make_ci {KF : PySem.W.Frag} {S : Store} {K : KE} {XX : KX} {z : Str} {d : Dat} {ls : List CL} (hz : isAlpha z = true) (hd : seqD (S ++ [.ins (He.ga KF "Circuit") [] []]) d = some (ls.map encCL)) (hn : d ≠ .cell S.length) (ok : okCs z.length ls) (h0 : 0 < ls.length) (hm : ls.length ≤ 4000) (hl : (lkOf ls).getLast? = some false) (k : K (cirD KF z ls) S) :
    sp_Circuit_init KF [.cell S.length, .str z, d] (S ++ [.ins (He.ga KF "Circuit") [] []]) (fun d S3 => d = .non ∧ ExitTo S K (.cell S.length) S3) XX := by
  obtain ⟨h4, hz0, _⟩ := alpha_len hz
  refine ⟨S.length, .str z, d, rfl, by simp, .made z ls rfl (by omega) hz hd h0 hm ok hl hn ?_⟩
  have e1 : (S ++ [Dat.ins (He.ga KF "Circuit") [] []]).length = S.length + 1 := by simp
  have e2 : ∀ x : Dat, (S ++ [Dat.ins (He.ga KF "Circuit") [] []]).set S.length x = S ++ [x] := fun x => st1sa
  rw [e1, e2, List.append_assoc]
  refine ⟨rfl, S, cirD KF z ls, ⟨⟨_, rfl⟩, Nat.le_refl _, .inl rfl⟩, Res.cell (d := .ins (He.ga KF "Circuit") cirNs [.str z, .lst (ls.map encCL), .cell (S.length + 1), .cell (S.length + 1 + 1), .lst (natDs (cellsOf ls))]) (Nat.le_refl _) (by rw [List.getElem?_append_right (Nat.le_refl _), Nat.sub_self]; rfl) (.ins rfl fun i x y e1 e2 => ?_), k⟩
  match i, e1, e2 with
  | 0, e1, e2 => cases e1; cases e2; exact .same (by simp only [below])
  | 1, e1, e2 => cases e1; cases e2; exact .same (by simp only [below]; exact lines_below _)
  | 2, e1, e2 => cases e1; cases e2; exact Res.cell (m := S.length + 1) (Nat.le_succ _) (by rw [List.getElem?_append_right (by omega), show S.length + 1 - S.length = 1 by omega]; rfl) (.same (by simp only [below]; exact nats_below' _))
  | 3, e1, e2 => cases e1; cases e2; exact Res.cell (m := S.length + 1 + 1) (by omega) (by rw [List.getElem?_append_right (by omega), show S.length + 1 + 1 - S.length = 2 by omega]; rfl) (.same (by simp only [below]; exact bls_below _))
  | 4, e1, e2 => cases e1; cases e2; exact .same (by simp only [below]; exact nats_below' _)
  | n + 5, e1, _ => cases e1
theorem ci_here {KF : PySem.W.Frag} {S : Store} {z : Str} {ls : List CL} (hz : isAlpha z = true) (ok : okCs z.length ls) (h0 : 0 < ls.length) (hm : ls.length ≤ 4000) : isCi KF S (cirD KF z ls) z ls := ⟨rfl, hz, ok, h0, hm⟩
theorem same_nats {S : Store} {n : Nat} {x y : Dat} {ns : List Nat} (hx : lstD S x = some (natDs ns)) (hy : lstD S y = some (natDs ns)) (hl : ns.length ≤ 1000000) : SameD S (n + 2) x y := same_ls hx hy (by rw [List.length_map]; exact hl) (all2_self fun x hm => by
  obtain ⟨i, _, rfl⟩ := List.mem_map.mp hm
  exact same_int)
theorem lst_cell {S : Store} {n : Nat} {xs : List Dat} (h : S[n]? = some (.lst xs)) : lstD S (.cell n) = some xs := by
  unfold lstD
  simp only [view, h]
end DL
/-! DY23: a text times a number. -/
namespace DL
open PySem PySem.Spec L2 PyProof.Rows
def repS (n : Nat) (x : Str) : Str := ⟨(List.replicate n x.cps).foldl (· ++ ·) #[]⟩
theorem foldl_cat (a : List Nat) : ∀ (m : Nat) (acc : List Nat), ((List.replicate m a.toArray).foldl (· ++ ·) acc.toArray) = (acc ++ (List.replicate m a).flatten).toArray
  | 0, acc => by simp
  | m + 1, acc => by
    rw [List.replicate_succ, List.foldl_cons, show acc.toArray ++ a.toArray = (acc ++ a).toArray by simp, foldl_cat a m (acc ++ a), List.replicate_succ, List.flatten_cons, List.append_assoc]
theorem repS_cps (n : Nat) (x : Str) : (repS n x).cps.toList = (List.replicate n x.cps.toList).flatten := by
  obtain ⟨c⟩ := x
  obtain ⟨c⟩ := c
  have := foldl_cat c n []
  rw [List.nil_append] at this
  unfold repS
  rw [this]
theorem flat_len {α : Type} (a : List α) : ∀ n : Nat, (List.replicate n a).flatten.length = a.length * n
  | 0 => rfl
  | n + 1 => by rw [List.replicate_succ, List.flatten_cons, List.length_append, flat_len a n, Nat.mul_succ, Nat.add_comm]
theorem repS_len (n : Nat) (x : Str) : (repS n x).length = x.length * n := by
  show (repS n x).cps.size = x.cps.size * n
  rw [← Array.length_toList, repS_cps, flat_len, Array.length_toList]
theorem repS_zero (x : Str) : repS 0 x = Str.empty := rfl
theorem repS_one (x : Str) : repS 1 x = x := by
  obtain ⟨c⟩ := x
  unfold repS
  simp
theorem repS_nil {x : Str} (h : x.length = 0) (n : Nat) : repS n x = x := by
  obtain ⟨c⟩ := x
  have hc : c = #[] := Array.eq_empty_of_size_eq_zero h
  subst hc
  have := repS_cps n ⟨#[]⟩
  have e : (repS n ⟨#[]⟩).cps.toList = [] := by
    rw [this]; simp
  cases hh : repS n ⟨#[]⟩ with
  | mk c =>
    rw [hh] at e
    have : c = #[] := by simpa using e
    rw [this]
def rRepS : R2 := fun x y H Q => ∃ i k, x = .str i ∧ y = .int k ∧ -(2 ^ 63) ≤ k ∧ k < 2 ^ 63 ∧ i.length * k.toNat ≤ sizeLine ∧ Q (.str (repS k.toNat i)) H
theorem op_repS {X : Cx} : OpR X (binaryOp .Mult) rRepS := by
  intro pins s σ H x y v u Q I rx ry h
  obtain ⟨i, k, rfl, rfl, h1, h2, hz, q⟩ := h
  obtain ⟨t, rfl⟩ := rx
  obtain ⟨t', rfl⟩ := ry
  have szl : sizeLine = 16777216 := rfl
  refine PySem.P.mul_str ?_ ?_ ?_ ?_
  · rw [decide_eq_false (by omega), decide_eq_false (by omega)]; rfl
  · intro n1 _ hc
    have hk : (0 : Int) < k := by omega
    have e : (k.toNat : Int) = k := Int.toNat_of_nonneg (by omega)
    have e2 : ((i.length * k.toNat : Nat) : Int) = (i.length : Int) * k := by rw [Int.natCast_mul, e]
    have e3 : (i.length : Int) ≤ (2 ^ 63 - 1) / k := (Int.le_ediv_iff_mul_le hk).mpr (by omega)
    omega
  · intro _ _
    exact decide_eq_false (Nat.not_lt.mpr hz)
  · split
    · rename_i n1
      rw [show k.toNat = 0 by omega, repS_zero] at q
      exact ⟨by decide, .str _, H, I.tok _, ⟨_, rfl⟩, q⟩
    · split
      · rename_i n1 c
        have e : repS k.toNat i = i := by
          rcases Bool.or_eq_true _ _ |>.mp c with c | c
          · have : k = 1 := by simpa using c
            subst this
            exact repS_one i
          · exact repS_nil (by simpa using c) _
        rw [e] at q
        exact ⟨.str i, H, I, ⟨_, rfl⟩, q⟩
      · refine ⟨?_, .str _, H, I.tok _, ⟨_, rfl⟩, q⟩
        show (repS k.toNat i).length ≤ _
        rw [repS_len]
        exact hz
def gRepS : G2 := fun x y S K => match x, y with
  | .str i, .int k => -(2 ^ 63) ≤ k ∧ k < 2 ^ 63 ∧ i.length * k.toNat ≤ sizeLine ∧ K (.str (repS k.toNat i)) S
  | _, _ => False
theorem dop_repS [Tabl] {X : Cx} : DOp X (binaryOp .Mult) rRepS gRepS := ⟨op_repS, fun {x y dx dy L H S T K Q} hs px py h hq => by
  unfold gRepS at h
  split at h
  · exact ⟨_, _, hs.vstr px, hs.vint py, h.1, h.2.1, h.2.2.1, hq.flat hs (d := .str _) rfl h.2.2.2⟩
  · exact h.elim⟩
theorem x_repS {S : Store} {K : KE} {i : Str} {n : Nat} (h : i.length * n ≤ sizeLine) (hn : n ≤ sizeLine) (k : K (.str (repS n i)) S) : gRepS (.str i) (.int (n : Int)) S K :=
  ⟨by have : sizeLine = 16777216 := rfl; omega, by have : sizeLine = 16777216 := rfl; omega, h, k⟩
/-- a call without arguments, of a def that raises nothing -/
theorem de_callF0 [Tabl] {X : Cx} {W : WX} {k j : Nat} {f : Addr} {ps : List Str} {F : Spec} {x : Str} {p pos : Pos} {dvs : List V} {dd : List Dat} (c : ∃ fd dl, FnOk X.prog X.w X.K X.mg X.base (L2.CX X.prog X.w) k f fd ps (spOf F) ∧ PySem.W.keepIn X.K (.ref f) = true ∧ Binds X.K fd ps dl ∧ Vals dvs dl ∧ Flats dd dvs) (hr : Room j X.A) (hj : k ≤ j) (hm : X.mg x = some (.ref f))
    (hF : ∀ ds S K Y, F ds S K Y → F ds S K fun _ _ => False) (hg : Gl X x := by rfl) (hdb : (x == ("__debug__" : Str)) = false := by decide) :
    DE X W (.Call (.Name x p) [] [] pos) (tCall (spOf F) dvs E0 tNil) (uCall F dd uNil) := by
  obtain ⟨fd, dl, h1, h2, h3, h4, h5⟩ := c
  exact ⟨pe_call0 h1 (hr.mono hj) hg hm h2 h3 h4 (fun pins σ H s e s' I c => (cx_none c).elim) hdb, fun {sg dl L H S T K X' Q} he hs h hq hx => by
      obtain ⟨L2, l2, p2, s2⟩ := hs.flats h5
      exact ⟨dd, L2, S, T, K, _, p2, s2, hF _ _ _ _ h, hq.le l2, fun e dd L' H' S' l _ _ h => h.elim⟩⟩
end DL
namespace DL
open PySem L2
local macro_rules | `(tactic| walk_at "sm") => `(tactic| (repeat (first | exact same_str | exact same_int | exact same_non | exact same_bl | ((with_reducible refine same_tA ?_ ?_); · rfl) | ((with_reducible refine same_lA ?_ ?_); · rfl) | with_reducible exact All2.nil | with_reducible refine All2.cons ?_ ?_ | with_reducible assumption)))
local macro_rules | `(tactic| walk_at "p") => `(tactic| (repeat (first | with_reducible refine ma_and (by assumption) ?_ | ((with_reducible refine And.intro ?_ ?_); (next => first | with_reducible assumption | rfl | decide | omega)) | with_reducible apply Exists.intro)))
local macro_rules | `(tactic| walk_at "w") => `(tactic| (repeat (first
  | with_reducible refine Step.h ?_ | ((with_reducible refine x_putL ?_ ?_); · rfl) | ((with_reducible refine x_name ?_ ?_); · exact of_decide_eq_true rfl) | ((with_reducible refine x_gtup ?_ ?_); · rfl) | ((with_reducible refine x_szL ?_ ?_); · rfl) | dsimp only [List.set_cons_succ, List.set_cons_zero]
  | ((with_reducible refine Open.h ?_); (repeat (first | with_reducible refine ma_and (by assumption) ?_ | ((with_reducible refine And.intro ?_ ?_); (next => first | with_reducible assumption | rfl | decide | omega)) | with_reducible apply Exists.intro))) | ((with_reducible refine x_is ?_ ?_); · rfl) | ((with_reducible refine x_isnot ?_ ?_); · rfl) | ((with_reducible refine x_isiD ?_ ?_ ?_); (next => rfl); (next => decide)) | ((with_reducible refine x_isiD2 ?_ ?_ ?_ ?_); (next => rfl); (next => decide); (next => decide))
  | ((with_reducible refine x_inTi ?_ ?_); · rfl) | ((with_reducible refine x_inTn ?_ ?_); · rfl) | ((with_reducible refine x_iteT2 ?_ ?_); · rfl) | ((with_reducible refine x_iteF2 ?_ ?_); · rfl) | (with_reducible first | refine mg_ma (by assumption) (by decide +kernel) ?_ | refine mg_ma1 (by assumption) (by decide +kernel) ?_ | refine pg_ma (by assumption) ?_ | refine pg_ma1 (by assumption) ?_ | refine fg_al (by assumption) ?_ | refine fg_rows (by assumption) ?_ | refine fg_start (by assumption) ?_) | ((with_reducible refine o_law_same ?_ ?_); (next => (repeat (first | exact same_str | exact same_int | exact same_non | exact same_bl | ((with_reducible refine same_tA ?_ ?_); · rfl) | ((with_reducible refine same_lA ?_ ?_); · rfl) | with_reducible exact All2.nil | with_reducible refine All2.cons ?_ ?_ | with_reducible assumption)); done))
  | (with_reducible refine x_rz1 ?_) | (with_reducible refine x_rz0 ?_) | ((with_reducible refine rt_here ?_ ?_); (next => first | ((simp only [below, nats_below', encRow]); done) | with_reducible assumption)) | (with_reducible refine nx_here ?_) | rw [cutD_one])))
def sp_Circuit_sizes (K : PySem.W.Frag) : Spec := fun ds S Kt _ => ∃ (d : Dat) (a : Str) (ls : List CL), ds = [d] ∧ isCi K S d a ls ∧ Kt (.lst (natDs (szOf a.length ls))) S
theorem len_Circuit_sizes {K : PySem.W.Frag} {ds S Kt X} (h : sp_Circuit_sizes K ds S Kt X) : ds.length = 1 := by obtain ⟨_, _, _, rfl, _⟩ := h; rfl
def sp_law_greatest_so (K : PySem.W.Frag) : Spec := fun ds S Kt _ => ds = [] ∧ Kt (.bl true) S
theorem len_law_greatest_so {K : PySem.W.Frag} {ds S Kt X} (h : sp_law_greatest_so K ds S Kt X) : ds.length = 0 := by obtain ⟨rfl, _⟩ := h; rfl
def u_Circuit_sizes (K : PySem.W.Frag) : US :=
  (uRet (uCB gListT (uCons (uFld [He.ga K "Circuit"] "own_sizes" (uVar 0)) uNil)))
def u_law_greatest_so (K : PySem.W.Frag) : US :=
  (uSeq (uFor (uSeqI (uLst (uCons (uTup (uCons (uC (.str "wire")) (uCons (uC (.int 0)) (uCons (uTup (uCons (uC (.int 999)) (uCons (uC (.int 0)) uNil))) uNil)))) (uCons (uTup (uCons (uC (.str "join")) (uCons (uC (.int 0)) (uCons (uC (.int 0)) (uCons (uTup (uCons (uTup (uCons (uC (.int 999)) (uCons (uC (.int 0)) uNil))) (uCons (uTup (uCons (uC (.int 0)) (uCons (uC (.int 0)) uNil))) uNil))) uNil))))) uNil)))) (uName 0) (uSeq (uSet 1 (uMake (He.ga K "Circuit") (sp_Circuit_init K) [] (uCons (uC (.str "xy")) (uCons (uLst (uCons (uTup (uCons (uC (.str "letter")) uNil)) (uCons (uVar 0) (uCons (uTup (uCons (uC (.str "latch")) (uCons (uC (.int 999)) (uCons (uC (.int 3)) (uCons (uC (.int 1)) uNil))))) (uCons (uTup (uCons (uC (.str "const")) (uCons (uC (.int 999)) uNil))) uNil))))) uNil))))
    (uSeq (uSet 2 (uLst (uCons (uMeth [(He.ga K "Circuit", sp_Circuit_after K)] "after" [] (uVar 1) (uCons (uC (.str "x")) uNil)) (uCons (uMeth [(He.ga K "Circuit", sp_Circuit_sides_after K)] "sides_after" [] (uVar 1) (uCons (uC (.str "yx")) uNil)) (uCons (uMeth [(He.ga K "Circuit", sp_Circuit_sides_after K)] "sides_after" [] (uVar 1) (uCons (uC (.str "y")) uNil)) (uCons (uMeth [(He.ga K "Circuit", sp_Circuit_sizes K)] "sizes" [] (uVar 1) uNil) uNil))))))
    (uIfS (uNot (uTru (uCall (sp_law_same K 6) [] (uCons (uVar 2) (uCons (uLst (uCons (uC (.int 999)) (uCons (uLst (uCons (uC (.int 998)) uNil)) (uCons (uLst (uCons (uC (.int 3)) uNil)) (uCons (uLst (uCons (uC (.int 2)) (uCons (uC (.int 1000)) (uCons (uC (.int 999)) (uCons (uC (.int 1000)) uNil))))) uNil))))) uNil))))) (uRet (uC (.bl false))) uNext))))
    (uRet (uC (.bl true))))
theorem r_Circuit_sizes {KF : PySem.W.Frag} {ds S K X} (h : sp_Circuit_sizes KF ds S K X) (hb : belows S.length ds) (hS : belows S.length S) : u_Circuit_sizes KF (endsOf S K X) (startD ["self"] ds) S := by
  obtain ⟨d, a, ls, rfl, ci, k⟩ := h
  show u_Circuit_sizes KF (endsOf S K X) [some d] S
  unfold u_Circuit_sizes
  walk_at "w"
  refine fg_ci ci rfl ?_
  walk_at "w"
  refine x_list rfl ?_
  exact rt_here (by simp only [below]; exact nats_below' _) k
/-- the circuits of greatest sizes -/
def tabH : Nat → CL
  | 0 => .wire 0 [999, 0]
  | _ => .join 0 0 [[999, 0], [0, 0]]
def lsH (i : Nat) : List CL := [.letter, tabH i, .latch 999 3 1, .const 999]
theorem nth4 {P : Nat → CL → Prop} {a b c d : CL} (h0 : P 0 a) (h1 : P 1 b) (h2 : P 2 c) (h3 : P 3 d) : ∀ i l, [a, b, c, d][i]? = some l → P i l := fun i l e => by
  match i, e with
  | 0, e => cases e; exact h0
  | 1, e => cases e; exact h1
  | 2, e => cases e; exact h2
  | 3, e => cases e; exact h3
  | n + 4, e => cases e
theorem okH (i : Nat) : okCs 2 (lsH i) := by
  match i with
  | 0 => exact nth4 (P := fun i l => okCL ((szOf 2 (lsH 0)).take i) l) True.intro ⟨rfl, by decide, by decide⟩ ⟨by decide, by decide, by decide, 1000, rfl, by decide⟩ (show 999 ≤ 999 by decide)
  | n + 1 => exact nth4 (P := fun i l => okCL ((szOf 2 (lsH 1)).take i) l) True.intro ⟨rfl, by decide, 2, rfl, by decide, by decide⟩ ⟨by decide, by decide, by decide, 1000, rfl, by decide⟩ (show 999 ≤ 999 by decide)
theorem xyA : isAlpha "xy" = true := by decide +kernel
theorem vH1 : ∀ i < 2, lastF (lsH i) (runF "xy" (lsH i) (firstF (lsH i)) ("x" : Str).cps.toList) = 999 := by decide +kernel
theorem vH2 : ∀ i < 2, pack (lsH i) (runF "xy" (lsH i) (firstF (lsH i)) ("yx" : Str).cps.toList) = [998] := by decide +kernel
theorem vH3 : ∀ i < 2, pack (lsH i) (runF "xy" (lsH i) (firstF (lsH i)) ("y" : Str).cps.toList) = [3] := by decide +kernel
theorem vH4 : ∀ i < 2, szOf ("xy" : Str).length (lsH i) = [2, 1000, 999, 1000] := by decide +kernel
theorem lkH : ∀ i < 2, (lkOf (lsH i)).getLast? = some false := by decide +kernel
theorem r_law_greatest_so {KF : PySem.W.Frag} {ds S K X} (h : sp_law_greatest_so KF ds S K X) (hb : belows S.length ds) (hS : belows S.length S) : u_law_greatest_so KF (endsOf S K X) (startD ["_law_table", "_law_high", "_law_told"] ds) S := by
  have szl : sizeLine = 16777216 := rfl
  obtain ⟨rfl, k⟩ := h
  show u_law_greatest_so KF (endsOf S K X) [none, none, none] S
  unfold u_law_greatest_so
  walk_at "w"
  refine ⟨[0, 1].map (fun i => encCL (tabH i)), rfl, ?_⟩
  refine for_T [0, 1] (fun i => encCL (tabH i)) (fun _ dl1 S2 => ∃ x0 x1 x2, dl1 = [x0, x1, x2] ∧ ∃ R, S2 = S ++ R) ?_ ?_ ?_ ?_
  · exact ⟨_, _, _, rfl, [], by simp⟩
  · intros; trivial
  · rintro pre i rest dl1 S2 hx ⟨x0, x1, x2, rfl, R, rfl⟩
    have hi : i < 2 := by
      have : i ∈ [0, 1] := by rw [hx]; simp
      simp at this; omega
    have ok : okCs ("xy" : Str).length (lsH i) := okH i
    have ci : ∀ S, isCi KF S (cirD KF "xy" (lsH i)) "xy" (lsH i) := fun S => ci_here xyA ok (show 0 < 4 by decide) (show 4 ≤ 4000 by decide)
    walk_at "w"
    refine make_ci (ls := lsH i) xyA rfl (by intro h; cases h) ok (show 0 < 4 by decide) (show 4 ≤ 4000 by decide) (lkH i hi) ?_
    walk_at "w"
    refine mg_ci (ci _) (by decide +kernel) ?_
    walk_at "w"
    refine ⟨ci _, .inr ⟨"x", rfl, by decide, by decide +kernel, ?_⟩⟩
    rw [vH1 i hi]
    walk_at "w"
    refine mg_ci (ci _) (by decide +kernel) ?_
    walk_at "w"
    refine ⟨ci _, .inr ⟨"yx", rfl, by decide, by decide +kernel, ?_⟩⟩
    rw [vH2 i hi]
    walk_at "w"
    refine mg_ci (ci _) (by decide +kernel) ?_
    walk_at "w"
    refine ⟨ci _, .inr ⟨"y", rfl, by decide, by decide +kernel, ?_⟩⟩
    rw [vH3 i hi]
    walk_at "w"
    refine mg_ci (ci _) (by decide +kernel) ?_
    walk_at "w"
    refine ⟨_, _, _, rfl, ci _, ?_⟩
    rw [vH4 i hi]
    walk_at "w"
    refine o_law_same ?_ ?_
    · exact same_ls (ys := [natD 999, .lst (natDs [998]), .lst (natDs [3]), .lst (natDs [2, 1000, 999, 1000])]) rfl rfl (Nat.le_of_ble_eq_true rfl) (.cons same_int (.cons (same_nats (ns := [998]) (lst_cell (by rw [List.getElem?_append_left (by simp)]; exact st1a)) rfl (by decide)) (.cons (same_nats (ns := [3]) (lst_cell st1a) rfl (by decide)) (.cons (same_nats (ns := [2, 1000, 999, 1000]) rfl rfl (by decide)) .nil))))
    walk_at "w"
    exact .inl ⟨_, _, _, rfl, R ++ [.lst (natDs [998])] ++ [.lst (natDs [3])], by simp⟩
  · rintro dl1 S2 ⟨x0, x1, x2, rfl, R, rfl⟩
    walk_at "w"
    exact exit_pure (by simp only [below]) k
end DL
namespace DL
open PySem L2
local macro_rules | `(tactic| walk_at "sm") => `(tactic| (repeat (first | exact same_str | exact same_int | exact same_non | exact same_bl | ((with_reducible refine same_tA ?_ ?_); · rfl) | ((with_reducible refine same_lA ?_ ?_); · rfl) | with_reducible exact All2.nil | with_reducible refine All2.cons ?_ ?_ | with_reducible assumption)))
local macro_rules | `(tactic| walk_at "p") => `(tactic| (repeat (first | with_reducible refine ma_and (by assumption) ?_ | ((with_reducible refine And.intro ?_ ?_); (next => first | with_reducible assumption | rfl | decide | omega)) | with_reducible apply Exists.intro)))
local macro_rules | `(tactic| walk_at "w") => `(tactic| (repeat (first
  | with_reducible refine Step.h ?_ | ((with_reducible refine x_putL ?_ ?_); · rfl) | ((with_reducible refine x_name ?_ ?_); · exact of_decide_eq_true rfl) | ((with_reducible refine x_gtup ?_ ?_); · rfl) | ((with_reducible refine x_szL ?_ ?_); · rfl) | dsimp only [List.set_cons_succ, List.set_cons_zero]
  | ((with_reducible refine Open.h ?_); (repeat (first | with_reducible refine ma_and (by assumption) ?_ | ((with_reducible refine And.intro ?_ ?_); (next => first | with_reducible assumption | rfl | decide | omega)) | with_reducible apply Exists.intro))) | ((with_reducible refine x_is ?_ ?_); · rfl) | ((with_reducible refine x_isnot ?_ ?_); · rfl) | ((with_reducible refine x_isiD ?_ ?_ ?_); (next => rfl); (next => decide)) | ((with_reducible refine x_isiD2 ?_ ?_ ?_ ?_); (next => rfl); (next => decide); (next => decide))
  | ((with_reducible refine x_inTi ?_ ?_); · rfl) | ((with_reducible refine x_inTn ?_ ?_); · rfl) | ((with_reducible refine x_iteT2 ?_ ?_); · rfl) | ((with_reducible refine x_iteF2 ?_ ?_); · rfl) | (with_reducible first | refine mg_ma (by assumption) (by decide +kernel) ?_ | refine mg_ma1 (by assumption) (by decide +kernel) ?_ | refine pg_ma (by assumption) ?_ | refine pg_ma1 (by assumption) ?_ | refine fg_al (by assumption) ?_ | refine fg_rows (by assumption) ?_ | refine fg_start (by assumption) ?_) | ((with_reducible refine o_law_same ?_ ?_); (next => (repeat (first | exact same_str | exact same_int | exact same_non | exact same_bl | ((with_reducible refine same_tA ?_ ?_); · rfl) | ((with_reducible refine same_lA ?_ ?_); · rfl) | with_reducible exact All2.nil | with_reducible refine All2.cons ?_ ?_ | with_reducible assumption)); done))
  | (with_reducible refine x_rz1 ?_) | (with_reducible refine x_rz0 ?_) | ((with_reducible refine rt_here ?_ ?_); (next => first | ((simp only [below, nats_below', encRow]); done) | with_reducible assumption)) | (with_reducible refine nx_here ?_) | rw [cutD_one])))
theorem prime_97 : isPrime (97 : Int) := prime_of (p := 97) (by decide) (by decide) (by decide)
theorem nth5 {P : Nat → CL → Prop} {a b c d e : CL} (h0 : P 0 a) (h1 : P 1 b) (h2 : P 2 c) (h3 : P 3 d) (h4 : P 4 e) : ∀ i l, [a, b, c, d, e][i]? = some l → P i l := fun i l q => by
  match i, q with
  | 0, q => cases q; exact h0
  | 1, q => cases q; exact h1
  | 2, q => cases q; exact h2
  | 3, q => cases q; exact h3
  | 4, q => cases q; exact h4
  | n + 5, q => cases q
theorem nth3 {P : Nat → CL → Prop} {a b c : CL} (h0 : P 0 a) (h1 : P 1 b) (h2 : P 2 c) : ∀ i l, [a, b, c][i]? = some l → P i l := fun i l q => by
  match i, q with
  | 0, q => cases q; exact h0
  | 1, q => cases q; exact h1
  | 2, q => cases q; exact h2
  | n + 3, q => cases q
def lsA (u o : Nat) (t : List Nat) : List CL := [.const u, .counter 97 96 0, .const 0, .latch 999 o 2, .wire 3 t]
theorem okA {u o : Nat} {t : List Nat} (hu : u < 97) (ho : o < 999) (ht : t.length = 999) (hx : ∀ x ∈ t, x ≤ 999) : okCs 2 (lsA u o t) :=
  nth5 (P := fun i l => okCL ((szOf 2 (lsA u o t)).take i) l) (show u ≤ 999 by omega) ⟨prime_97, by decide, by decide, by decide, show 0 < 1 by decide⟩ (show 0 ≤ 999 by decide) ⟨by decide, by decide, ho, 1, rfl, by decide⟩ ⟨by rw [ht]; rfl, by omega, hx⟩
theorem lkA {u o : Nat} {t : List Nat} : (lkOf (lsA u o t)).getLast? = some false := rfl
theorem stepA {u o s : Nat} {t : List Nat} {c : Nat} : stepF (lsA u o t) [0, s, 0, o, 0] c = [0, (s + u) % 97, 0, o, 0] := rfl
theorem runA {u o : Nat} {t : List Nat} : ∀ (cs : List Nat) (s : Nat), s < 97 → runF "xy" (lsA u o t) [0, s, 0, o, 0] cs = [0, (s + u * cs.length) % 97, 0, o, 0]
  | [], s, h => by rw [List.length_nil, Nat.mul_zero, Nat.add_zero, Nat.mod_eq_of_lt h]; rfl
  | c :: cs, s, h => by
    show runF "xy" (lsA u o t) (stepF (lsA u o t) [0, s, 0, o, 0] _) cs = _
    rw [stepA, runA cs _ (Nat.mod_lt _ (by decide)), Nat.mod_add_mod, List.length_cons, Nat.mul_succ, Nat.add_assoc, Nat.add_comm u]
theorem firstA {u o : Nat} {t : List Nat} : firstF (lsA u o t) = [0, 96, 0, o, 0] := rfl
theorem lastA {u o s : Nat} {t : List Nat} : lastF (lsA u o t) [0, s, 0, o, 0] = t.getD o 0 := rfl
theorem packA {u o s : Nat} {t : List Nat} : pack (lsA u o t) [0, s, 0, o, 0] = [s, o] := rfl
def turnT (u : Nat) : List Nat := (List.range 999).map fun k => (k + u) % 999
theorem turn_len (u : Nat) : (turnT u).length = 999 := by unfold turnT; simp
theorem turn_le (u : Nat) : ∀ x ∈ turnT u, x ≤ 999 := fun x h => by
  unfold turnT at h
  obtain ⟨k, _, rfl⟩ := List.mem_map.mp h
  have := Nat.mod_lt (k + u) (show 0 < 999 by decide)
  omega
theorem turn_at {u o : Nat} (ho : o < 999) : (turnT u).getD o 0 = (o + u) % 999 := by
  unfold turnT
  simp [List.getD, ho]
def lsB (w : Nat) : List CL := .letter :: (List.range w).map fun i => .counter 2 0 i
theorem lsB_len (w : Nat) : (lsB w).length = w + 1 := by unfold lsB; simp
theorem okB (w : Nat) : okCs 2 (lsB w) := fun i l e => by
  match i, e with
  | 0, e => cases e; exact True.intro
  | n + 1, e =>
    have e2 : ((List.range w).map fun i => CL.counter 2 0 i)[n]? = some l := e
    rw [List.getElem?_map] at e2
    have hn : n < w := by
      rcases Nat.lt_or_ge n w with h | h
      · exact h
      · rw [List.getElem?_eq_none (by simpa using h)] at e2; cases e2
    rw [List.getElem?_range hn] at e2
    cases e2
    refine ⟨prime_small (.inl rfl), by decide, by decide, by decide, ?_⟩
    show n < _
    rw [List.length_take]
    unfold szOf
    rw [List.length_map, lsB_len]
    omega
theorem lk_snoc (xs : List CL) (l : CL) : (lkOf (xs ++ [l])).getLast? = some (lookF (lkOf xs) l) := by
  unfold lkOf
  rw [List.foldl_append]
  simp
theorem lkB {w : Nat} (h : 0 < w) : (lkOf (lsB w)).getLast? = some false := by
  obtain ⟨v, rfl⟩ : ∃ v, w = v + 1 := ⟨w - 1, by omega⟩
  unfold lsB
  rw [List.range_succ, List.map_append, ← List.cons_append]
  exact lk_snoc _ _
theorem pack_all : ∀ (ls : List CL) (F : List Nat), F.length = ls.length → (∀ l ∈ ls, isCell l = true) → pack ls F = F
  | [], [], _, _ => rfl
  | l :: ls, x :: F, h, hc => by
    have ih := pack_all ls F (by simpa using h) (fun l m => hc l (List.mem_cons_of_mem _ m))
    unfold pack at ih ⊢
    rw [List.zip_cons_cons, List.filter_cons_of_pos (by simpa using hc l (List.mem_cons_self)), List.map_cons, ih]
theorem packB {w : Nat} {F : List Nat} (h : F.length = w + 1) : pack (lsB w) F = F.drop 1 := by
  match F, h with
  | x :: F, h =>
    show pack ((List.range w).map _) F = F
    refine pack_all _ _ (by simpa using h) fun l m => ?_
    obtain ⟨i, _, rfl⟩ := List.mem_map.mp m
    rfl
theorem valsG_len : ∀ (ls : List CL) (acc full : List Nat) (c : Nat), (valsG ls acc full c).length = acc.length + ls.length
  | [], acc, _, _ => rfl
  | l :: ls, acc, full, c => by
    show (valsG ls _ _ c).length = _
    rw [valsG_len ls]; simp; omega
theorem valsG_snoc (x : CL) : ∀ (ls : List CL) (acc full : List Nat) (c : Nat), isCell x = true → valsG (ls ++ [x]) acc full c = valsG ls acc full c ++ [(full.drop ls.length).headD 0]
  | [], acc, full, c, h => by
    show acc ++ [if isCell x = true then full.headD 0 else _] = acc ++ _
    rw [if_pos h]; rfl
  | l :: ls, acc, full, c, h => by
    show valsG (ls ++ [x]) _ full.tail c = valsG ls _ full.tail c ++ _
    rw [valsG_snoc x ls _ _ _ h]
    simp [List.drop_tail]
theorem lastB {w : Nat} {F : List Nat} (h : 0 < w) (hF : F.length = w + 1) : lastF (lsB w) F = F.getD w 0 := by
  obtain ⟨v, rfl⟩ : ∃ v, w = v + 1 := ⟨w - 1, by omega⟩
  unfold lastF valsF
  rw [lsB_len]
  unfold lsB
  rw [List.range_succ, List.map_append, ← List.cons_append]
  rw [List.map_cons, List.map_nil, valsG_snoc _ _ _ _ _ rfl]
  have hl : (CL.letter :: (List.range v).map fun i => CL.counter 2 0 i).length = v + 1 := by simp
  generalize hV : valsG (CL.letter :: (List.range v).map fun i => CL.counter 2 0 i) [] F 0 = V
  have hV2 : V.length = v + 1 := by rw [← hV, valsG_len, hl]; simp
  rw [hl]
  show (V ++ [(F.drop (v + 1)).headD 0])[v + 1]?.getD 0 = F[v + 1]?.getD 0
  rw [List.getElem?_append_right (by omega), hV2, Nat.sub_self]
  simp [List.headD_eq_head?_getD, List.head?_drop]
def lsC (s : Nat) : List CL := [.letter, .wire 0 [s, 0], .latch 999 5 1]
theorem okC1 {s : Nat} (hs : s ≤ 999) : ∀ x ∈ [s, 0], x ≤ 999 := fun x h => by
  rcases List.mem_cons.mp h with e | h
  · rw [e]; exact hs
  · rw [List.mem_singleton.mp h]; exact Nat.zero_le _
theorem okC2 {s : Nat} (hs : s ≤ 999) : ∃ m, ((szOf 2 (lsC s)).take 2)[1]? = some m ∧ m ≤ 999 + 1 :=
  ⟨max s (max 0 0) + 1, rfl, Nat.succ_le_succ (Nat.max_le.mpr ⟨hs, Nat.zero_le _⟩)⟩
theorem okC {s : Nat} (hs : s ≤ 999) : okCs 2 (lsC s) :=
  nth3 (P := fun i l => okCL ((szOf 2 (lsC s)).take i) l) True.intro ⟨rfl, Nat.succ_pos 1, okC1 hs⟩ ⟨Nat.le_of_ble_eq_true rfl, Nat.le_of_ble_eq_true rfl, Nat.le_of_ble_eq_true rfl, okC2 hs⟩
theorem lkC {s : Nat} : (lkOf (lsC s)).getLast? = some false := rfl
theorem stepC1 {s x : Nat} : stepF (lsC s) [0, 0, x] 1 = [0, 0, x] := rfl
theorem stepC0 {s x : Nat} (h : 0 < s) : stepF (lsC s) [0, 0, x] 0 = [0, 0, s - 1] := by
  show [0, 0, if s = 0 then x else s - 1] = _
  rw [if_neg (by omega)]
theorem runC1 {s : Nat} : ∀ (n x : Nat), runF "xy" (lsC s) [0, 0, x] (List.replicate n 121) = [0, 0, x]
  | 0, x => rfl
  | n + 1, x => by
    rw [List.replicate_succ]
    show runF "xy" (lsC s) (stepF (lsC s) [0, 0, x] (("xy" : Str).cps.toList.idxOf 121)) (List.replicate n 121) = _
    rw [show ("xy" : Str).cps.toList.idxOf 121 = 1 by decide +kernel, stepC1, runC1 n x]
theorem runC2 {s : Nat} (h : 0 < s) (n : Nat) : runF "xy" (lsC s) [0, 0, 5] (121 :: 120 :: List.replicate n 121) = [0, 0, s - 1] := by
  show runF "xy" (lsC s) (stepF (lsC s) (stepF (lsC s) [0, 0, 5] (("xy" : Str).cps.toList.idxOf 121)) (("xy" : Str).cps.toList.idxOf 120)) (List.replicate n 121) = _
  rw [show ("xy" : Str).cps.toList.idxOf 121 = 1 by decide +kernel, show ("xy" : Str).cps.toList.idxOf 120 = 0 by decide +kernel, stepC1, stepC0 h, runC1]
theorem lastC {s x : Nat} : lastF (lsC s) [0, 0, x] = x := rfl
theorem ys_cps (n : Nat) : (repS n "y").cps.toList = List.replicate n 121 := by
  rw [repS_cps, show ("y" : Str).cps.toList = [121] by decide +kernel]
  induction n with
  | zero => rfl
  | succ n ih => rw [List.replicate_succ, List.flatten_cons, ih, List.replicate_succ]; rfl
theorem yx_cps (n : Nat) : ("yx" ++ repS n "y" : Str).cps.toList = 121 :: 120 :: List.replicate n 121 := by
  show (("yx" : Str).cps ++ (repS n "y").cps).toList = _
  rw [Array.toList_append, ys_cps, show ("yx" : Str).cps.toList = [121, 120] by decide +kernel]; rfl
theorem w_ys (n : Nat) : isWord "xy" (repS n "y") = true := by
  unfold isWord
  rw [ys_cps, List.all_eq_true]
  intro c h
  rw [(List.mem_replicate.mp h).2]; decide +kernel
theorem w_yx (n : Nat) : isWord "xy" ("yx" ++ repS n "y") = true := by
  unfold isWord
  rw [yx_cps, List.all_eq_true]
  intro c h
  simp only [List.mem_cons, List.mem_replicate] at h
  rcases h with rfl | rfl | ⟨_, rfl⟩ <;> decide +kernel
theorem l_ys (n : Nat) : (repS n "y").length = n := by
  rw [repS_len, show ("y" : Str).length = 1 by decide +kernel, Nat.one_mul]
theorem l_yx (n : Nat) : ("yx" ++ repS n "y" : Str).length = 2 + n := by
  rw [← cps_len, yx_cps]; simp; omega
section
variable {K : PySem.W.Frag} {P : Store → Prop} {dl : Env'} {S : Store} {b m n i : Nat} {own : List Nat} {G : List Dat → Store → Prop} {bag : Dat}
theorem lc_drawP {p : Nat → Prop} {ue : UE} (hm : m ≤ 1000000) (hbag : S[b]? = some bag) (hB : IsBag bag)
    (hs : ∀ (j : Nat) S2 (Kt : Dat → Store → Prop), (∃ bag', S2 = S.set b bag' ∧ IsBag bag') → (∀ k bag', p k → IsBag bag' → Kt (natD k) (S2.set b bag')) → uName i (natD j) (wipeD dl own) S2 (fun dl2 S3 => uYes dl2 S3 (fun c S4 => if c = true then ue dl2 S4 Kt XF0 else False) XF0) XF0)
    (hP : ∀ S2, P S2) (k : ∀ (ns : List Nat) bag', ns.length = m → (∀ x ∈ ns, p x) → IsBag bag' → G (natDs ns) (S.set b bag')) :
    ∃ I : Nat → List Dat → Store → Prop, I 0 [] S ∧ (∀ (j : Nat) d acc S2, ((List.range m).map fun n : Nat => Dat.int (n : Int))[j]? = some d → I j acc S2 → P S2 ∧ acc.length < sizeLine ∧ uName i d (wipeD dl own) S2 (fun dl2 S3 => uYes dl2 S3 (fun b S4 => if b = true then ue dl2 S4 (fun y S5 => I (j + 1) (acc ++ [y]) S5) XF0 else I (j + 1) acc S4) XF0) XF0) ∧
      ∀ acc S2, I ((List.range m).map fun n : Nat => Dat.int (n : Int)).length acc S2 → P S2 ∧ G acc S2 := by
  have szl : sizeLine = 16777216 := rfl
  have hbl := (List.getElem?_eq_some_iff.mp hbag).1
  refine lc_S (List.range m) (fun n : Nat => Dat.int (n : Int)) (fun pre acc S2 => ∃ ns : List Nat, acc = natDs ns ∧ ns.length = pre.length ∧ (∀ x ∈ ns, p x) ∧ ∃ bag', S2 = S.set b bag' ∧ IsBag bag') (by rw [List.length_range]; omega) ?_ ?_ ?_ ?_
  · exact ⟨[], rfl, rfl, fun x h => (by cases h), bag, (set_here hbag).symm, hB⟩
  · rintro pre acc S2 ⟨ns, rfl, hl, _⟩
    exact ⟨hP _, by rw [List.length_map]; omega⟩
  · rintro pre a rest acc S2 hx ⟨ns, rfl, hl, hn, bag', rfl, hB'⟩
    have := hs a (S.set b bag') (fun y S5 => ∃ ns' : List Nat, natDs ns ++ [y] = natDs ns' ∧ ns'.length = (pre ++ [a]).length ∧ (∀ x ∈ ns', p x) ∧ ∃ bag', S5 = S.set b bag' ∧ IsBag bag') ⟨bag', rfl, hB'⟩ (fun k bag2 hk hB2 => ⟨ns ++ [k], natDs_snoc.symm, by simp [hl], fun x hx => by
      rcases List.mem_append.mp hx with h | h
      · exact hn x h
      · rw [List.mem_singleton.mp h]; exact hk, bag2, by rw [List.set_set], hB2⟩)
    refine ⟨this.1, ?_⟩
    have h2 := this.2
    unfold uYes at h2 ⊢
    dsimp only at h2 ⊢
    rw [if_pos rfl] at h2 ⊢
    exact h2
  · rintro acc S2 ⟨ns, rfl, hl, hn, bag', rfl, hB'⟩
    exact k ns bag' (by rw [hl, List.length_range]) hn hB'
end
/-! S24: k24's law. -/
end DL
namespace DL
open PySem L2
def u_law (K : PySem.W.Frag) : US :=
  (uSeq (uSet 1 (uCall (sp_law_bag K) [] (uCons (uVar 0) uNil)))
    (uSeq (uAsg (uTup (uCons (uCall (sp_law_pull K) [] (uCons (uVar 1) (uCons (uC (.int 97)) uNil))) (uCons (uCall (sp_law_pull K) [] (uCons (uVar 1) (uCons (uC (.int 999)) uNil))) (uCons (uCall (sp_law_pull K) [] (uCons (uVar 1) (uCons (uC (.int 201)) uNil))) uNil)))) (uGTup 3 (uGCons (uName 2) (uGCons (uName 3) (uGCons (uName 4) uGNil)))))
    (uSeq (uSet 5 (uCB gTupleC (uCons (uLc (uR1 (uCons (uC (.int 999)) uNil)) [16] (uName 16) uYes (uOp gMod (uCB gInt1 (uCons (uOp gAdd (uVar 16) (uVar 2)) uNil)) (uC (.int 999)))) uNil)))
    (uSeq (uSet 6 (uLst (uCons (uTup (uCons (uC (.str "const")) (uCons (uVar 2) uNil))) (uCons (uTup (uCons (uC (.str "counter")) (uCons (uC (.int 97)) (uCons (uC (.int 96)) (uCons (uC (.int 0)) uNil))))) (uCons (uTup (uCons (uC (.str "const")) (uCons (uC (.int 0)) uNil))) (uCons (uTup (uCons (uC (.str "latch")) (uCons (uC (.int 999)) (uCons (uVar 3) (uCons (uC (.int 2)) uNil))))) (uCons (uTup (uCons (uC (.str "wire")) (uCons (uC (.int 3)) (uCons (uVar 5) uNil)))) uNil)))))))
    (uSeq (uSet 7 (uMake (He.ga K "Circuit") (sp_Circuit_init K) [] (uCons (uC (.str "xy")) (uCons (uVar 6) uNil))))
    (uSeq (uSet 8 (uCall (sp_law_text K) [] (uCons (uVar 1) (uCons (uC (.str "xy")) (uCons (uVar 4) uNil)))))
    (uSeq (uSet 9 (uLst (uCons (uOp gMod (uCB gInt1 (uCons (uOp gAdd (uVar 3) (uVar 2)) uNil)) (uC (.int 999))) (uCons (uLst (uCons (uOp gMod (uCB gInt1 (uCons (uOp gAdd (uC (.int 96)) (uOp gMul (uVar 2) (uVar 4))) uNil)) (uC (.int 97))) (uCons (uVar 3) uNil))) uNil))))
    (uSeq (uIfS (uNot (uTru (uCall (sp_law_same K 6) [] (uCons (uLst (uCons (uMeth [(He.ga K "Circuit", sp_Circuit_after K)] "after" [] (uVar 7) (uCons (uVar 8) uNil)) (uCons (uMeth [(He.ga K "Circuit", sp_Circuit_sides_after K)] "sides_after" [] (uVar 7) (uCons (uVar 8) uNil)) uNil))) (uCons (uVar 9) uNil))))) (uRet (uC (.bl false))) uNext)
    (uSeq (uSet 10 (uOp gAdd (uC (.int 61)) (uCall (sp_law_pull K) [] (uCons (uVar 1) (uCons (uC (.int 60)) uNil)))))
    (uSeq (uSet 11 (uOp gAdd (uLst (uCons (uTup (uCons (uC (.str "letter")) uNil)) uNil)) (uLc (uR1 (uCons (uVar 10) uNil)) [17] (uName 17) uYes (uTup (uCons (uC (.str "counter")) (uCons (uC (.int 2)) (uCons (uC (.int 0)) (uCons (uVar 17) uNil))))))))
    (uSeq (uSet 12 (uMake (He.ga K "Circuit") (sp_Circuit_init K) [] (uCons (uC (.str "xy")) (uCons (uVar 11) uNil))))
    (uSeq (uSet 13 (uCall (sp_law_run K) [] (uCons (uVar 11) (uCons (uC (.str "xy")) (uCons (uVar 8) uNil)))))
    (uSeq (uIfS (uNot (uTru (uCall (sp_law_same K 6) [] (uCons (uLst (uCons (uMeth [(He.ga K "Circuit", sp_Circuit_after K)] "after" [] (uVar 12) (uCons (uVar 8) uNil)) (uCons (uMeth [(He.ga K "Circuit", sp_Circuit_sides_after K)] "sides_after" [] (uVar 12) (uCons (uVar 8) uNil)) uNil))) (uCons (uLst (uCons (uOp gIx (uVar 13) (uUn gNeg (uC (.int 1)))) (uCons (uCB gListT (uCons (uSl (uVar 13) (uPart (uC (.int 1))) uNo) uNil)) uNil))) uNil))))) (uRet (uC (.bl false))) uNext)
    (uSeq (uSet 14 (uLc (uR1 (uCons (uC (.int 2)) uNil)) [16] (uName 16) uYes (uOp gAdd (uCall (sp_law_pull K) [] (uCons (uVar 1) (uCons (uC (.int 999)) uNil))) (uC (.int 1)))))
    (uSeq (uSet 15 (uMake (He.ga K "Circuit") (sp_Circuit_init K) [] (uCons (uC (.str "xy")) (uCons (uLst (uCons (uTup (uCons (uC (.str "letter")) uNil)) (uCons (uTup (uCons (uC (.str "wire")) (uCons (uC (.int 0)) (uCons (uTup (uCons (uOp gIx (uVar 14) (uC (.int 0))) (uCons (uC (.int 0)) uNil))) uNil)))) (uCons (uTup (uCons (uC (.str "latch")) (uCons (uC (.int 999)) (uCons (uC (.int 5)) (uCons (uC (.int 1)) uNil))))) uNil)))) uNil))))
    (uSeq (uIfS (uNot (uTru (uCall (sp_law_greatest_so K) [] uNil))) (uRet (uC (.bl false))) uNext)
    (uRet (uCall (sp_law_same K 6) [] (uCons (uLst (uCons (uMeth [(He.ga K "Circuit", sp_Circuit_after K)] "after" [] (uVar 15) (uCons (uOp gRepS (uC (.str "y")) (uVar 4)) uNil)) (uCons (uMeth [(He.ga K "Circuit", sp_Circuit_after K)] "after" [] (uVar 15) (uCons (uOp gAdd (uC (.str "yx")) (uOp gRepS (uC (.str "y")) (uVar 4))) uNil)) uNil))) (uCons (uLst (uCons (uC (.int 5)) (uCons (uOp gSub (uOp gIx (uVar 14) (uC (.int 0))) (uC (.int 1))) uNil))) uNil))))))))))))))))))))
end DL
namespace DL
open PySem L2
local macro_rules | `(tactic| walk_at "sm") => `(tactic| (repeat (first | exact same_str | exact same_int | exact same_non | exact same_bl | ((with_reducible refine same_tA ?_ ?_); · rfl) | ((with_reducible refine same_lA ?_ ?_); · rfl) | with_reducible exact All2.nil | with_reducible refine All2.cons ?_ ?_ | with_reducible assumption)))
local macro_rules | `(tactic| walk_at "p") => `(tactic| (repeat (first | with_reducible refine ma_and (by assumption) ?_ | ((with_reducible refine And.intro ?_ ?_); (next => first | with_reducible assumption | rfl | decide | omega)) | with_reducible apply Exists.intro)))
local macro_rules | `(tactic| walk_at "w") => `(tactic| (repeat (first
  | with_reducible refine Step.h ?_ | ((with_reducible refine x_putL ?_ ?_); · rfl) | ((with_reducible refine x_name ?_ ?_); · exact of_decide_eq_true rfl) | ((with_reducible refine x_gtup ?_ ?_); · rfl) | ((with_reducible refine x_szL ?_ ?_); · rfl) | dsimp only [List.set_cons_succ, List.set_cons_zero]
  | ((with_reducible refine Open.h ?_); (repeat (first | with_reducible refine ma_and (by assumption) ?_ | ((with_reducible refine And.intro ?_ ?_); (next => first | with_reducible assumption | rfl | decide | omega)) | with_reducible apply Exists.intro))) | ((with_reducible refine x_is ?_ ?_); · rfl) | ((with_reducible refine x_isnot ?_ ?_); · rfl) | ((with_reducible refine x_isiD ?_ ?_ ?_); (next => rfl); (next => decide)) | ((with_reducible refine x_isiD2 ?_ ?_ ?_ ?_); (next => rfl); (next => decide); (next => decide))
  | ((with_reducible refine x_inTi ?_ ?_); · rfl) | ((with_reducible refine x_inTn ?_ ?_); · rfl) | ((with_reducible refine x_iteT2 ?_ ?_); · rfl) | ((with_reducible refine x_iteF2 ?_ ?_); · rfl) | (with_reducible first | refine mg_ma (by assumption) (by decide +kernel) ?_ | refine mg_ma1 (by assumption) (by decide +kernel) ?_ | refine pg_ma (by assumption) ?_ | refine pg_ma1 (by assumption) ?_ | refine fg_al (by assumption) ?_ | refine fg_rows (by assumption) ?_ | refine fg_start (by assumption) ?_) | ((with_reducible refine o_law_same ?_ ?_); (next => (repeat (first | exact same_str | exact same_int | exact same_non | exact same_bl | ((with_reducible refine same_tA ?_ ?_); · rfl) | ((with_reducible refine same_lA ?_ ?_); · rfl) | with_reducible exact All2.nil | with_reducible refine All2.cons ?_ ?_ | with_reducible assumption)); done))
  | (with_reducible refine x_rz1 ?_) | (with_reducible refine x_rz0 ?_) | ((with_reducible refine rt_here ?_ ?_); (next => first | ((simp only [below, nats_below', encRow]); done) | with_reducible assumption)) | (with_reducible refine nx_here ?_) | rw [cutD_one])))
def te_16 (K : PySem.W.Frag) : US :=
  ((uRet (uCall (sp_law_same K 6) [] (uCons (uLst (uCons (uMeth [(He.ga K "Circuit", sp_Circuit_after K)] "after" [] (uVar 15) (uCons (uOp gRepS (uC (.str "y")) (uVar 4)) uNil)) (uCons (uMeth [(He.ga K "Circuit", sp_Circuit_after K)] "after" [] (uVar 15) (uCons (uOp gAdd (uC (.str "yx")) (uOp gRepS (uC (.str "y")) (uVar 4))) uNil)) uNil))) (uCons (uLst (uCons (uC (.int 5)) (uCons (uOp gSub (uOp gIx (uVar 14) (uC (.int 0))) (uC (.int 1))) uNil))) uNil)))))
def te_15 (K : PySem.W.Frag) : US :=
  (uSeq (uIfS (uNot (uTru (uCall (sp_law_greatest_so K) [] uNil))) (uRet (uC (.bl false))) uNext)
    (te_16 K))
def te_14 (K : PySem.W.Frag) : US :=
  (uSeq (uSet 15 (uMake (He.ga K "Circuit") (sp_Circuit_init K) [] (uCons (uC (.str "xy")) (uCons (uLst (uCons (uTup (uCons (uC (.str "letter")) uNil)) (uCons (uTup (uCons (uC (.str "wire")) (uCons (uC (.int 0)) (uCons (uTup (uCons (uOp gIx (uVar 14) (uC (.int 0))) (uCons (uC (.int 0)) uNil))) uNil)))) (uCons (uTup (uCons (uC (.str "latch")) (uCons (uC (.int 999)) (uCons (uC (.int 5)) (uCons (uC (.int 1)) uNil))))) uNil)))) uNil))))
    (te_15 K))
def te_13 (K : PySem.W.Frag) : US :=
  (uSeq (uSet 14 (uLc (uR1 (uCons (uC (.int 2)) uNil)) [16] (uName 16) uYes (uOp gAdd (uCall (sp_law_pull K) [] (uCons (uVar 1) (uCons (uC (.int 999)) uNil))) (uC (.int 1)))))
    (te_14 K))
def te_12 (K : PySem.W.Frag) : US :=
  (uSeq (uIfS (uNot (uTru (uCall (sp_law_same K 6) [] (uCons (uLst (uCons (uMeth [(He.ga K "Circuit", sp_Circuit_after K)] "after" [] (uVar 12) (uCons (uVar 8) uNil)) (uCons (uMeth [(He.ga K "Circuit", sp_Circuit_sides_after K)] "sides_after" [] (uVar 12) (uCons (uVar 8) uNil)) uNil))) (uCons (uLst (uCons (uOp gIx (uVar 13) (uUn gNeg (uC (.int 1)))) (uCons (uCB gListT (uCons (uSl (uVar 13) (uPart (uC (.int 1))) uNo) uNil)) uNil))) uNil))))) (uRet (uC (.bl false))) uNext)
    (te_13 K))
def te_11 (K : PySem.W.Frag) : US :=
  (uSeq (uSet 13 (uCall (sp_law_run K) [] (uCons (uVar 11) (uCons (uC (.str "xy")) (uCons (uVar 8) uNil)))))
    (te_12 K))
def te_10 (K : PySem.W.Frag) : US :=
  (uSeq (uSet 12 (uMake (He.ga K "Circuit") (sp_Circuit_init K) [] (uCons (uC (.str "xy")) (uCons (uVar 11) uNil))))
    (te_11 K))
def te_9 (K : PySem.W.Frag) : US :=
  (uSeq (uSet 11 (uOp gAdd (uLst (uCons (uTup (uCons (uC (.str "letter")) uNil)) uNil)) (uLc (uR1 (uCons (uVar 10) uNil)) [17] (uName 17) uYes (uTup (uCons (uC (.str "counter")) (uCons (uC (.int 2)) (uCons (uC (.int 0)) (uCons (uVar 17) uNil))))))))
    (te_10 K))
def te_8 (K : PySem.W.Frag) : US :=
  (uSeq (uSet 10 (uOp gAdd (uC (.int 61)) (uCall (sp_law_pull K) [] (uCons (uVar 1) (uCons (uC (.int 60)) uNil)))))
    (te_9 K))
def te_7 (K : PySem.W.Frag) : US :=
  (uSeq (uIfS (uNot (uTru (uCall (sp_law_same K 6) [] (uCons (uLst (uCons (uMeth [(He.ga K "Circuit", sp_Circuit_after K)] "after" [] (uVar 7) (uCons (uVar 8) uNil)) (uCons (uMeth [(He.ga K "Circuit", sp_Circuit_sides_after K)] "sides_after" [] (uVar 7) (uCons (uVar 8) uNil)) uNil))) (uCons (uVar 9) uNil))))) (uRet (uC (.bl false))) uNext)
    (te_8 K))
def te_6 (K : PySem.W.Frag) : US :=
  (uSeq (uSet 9 (uLst (uCons (uOp gMod (uCB gInt1 (uCons (uOp gAdd (uVar 3) (uVar 2)) uNil)) (uC (.int 999))) (uCons (uLst (uCons (uOp gMod (uCB gInt1 (uCons (uOp gAdd (uC (.int 96)) (uOp gMul (uVar 2) (uVar 4))) uNil)) (uC (.int 97))) (uCons (uVar 3) uNil))) uNil))))
    (te_7 K))
def te_5 (K : PySem.W.Frag) : US :=
  (uSeq (uSet 8 (uCall (sp_law_text K) [] (uCons (uVar 1) (uCons (uC (.str "xy")) (uCons (uVar 4) uNil)))))
    (te_6 K))
def te_4 (K : PySem.W.Frag) : US :=
  (uSeq (uSet 7 (uMake (He.ga K "Circuit") (sp_Circuit_init K) [] (uCons (uC (.str "xy")) (uCons (uVar 6) uNil))))
    (te_5 K))
def te_3 (K : PySem.W.Frag) : US :=
  (uSeq (uSet 6 (uLst (uCons (uTup (uCons (uC (.str "const")) (uCons (uVar 2) uNil))) (uCons (uTup (uCons (uC (.str "counter")) (uCons (uC (.int 97)) (uCons (uC (.int 96)) (uCons (uC (.int 0)) uNil))))) (uCons (uTup (uCons (uC (.str "const")) (uCons (uC (.int 0)) uNil))) (uCons (uTup (uCons (uC (.str "latch")) (uCons (uC (.int 999)) (uCons (uVar 3) (uCons (uC (.int 2)) uNil))))) (uCons (uTup (uCons (uC (.str "wire")) (uCons (uC (.int 3)) (uCons (uVar 5) uNil)))) uNil)))))))
    (te_4 K))
def te_2 (K : PySem.W.Frag) : US :=
  (uSeq (uSet 5 (uCB gTupleC (uCons (uLc (uR1 (uCons (uC (.int 999)) uNil)) [16] (uName 16) uYes (uOp gMod (uCB gInt1 (uCons (uOp gAdd (uVar 16) (uVar 2)) uNil)) (uC (.int 999)))) uNil)))
    (te_3 K))
def te_1 (K : PySem.W.Frag) : US :=
  (uSeq (uAsg (uTup (uCons (uCall (sp_law_pull K) [] (uCons (uVar 1) (uCons (uC (.int 97)) uNil))) (uCons (uCall (sp_law_pull K) [] (uCons (uVar 1) (uCons (uC (.int 999)) uNil))) (uCons (uCall (sp_law_pull K) [] (uCons (uVar 1) (uCons (uC (.int 201)) uNil))) uNil)))) (uGTup 3 (uGCons (uName 2) (uGCons (uName 3) (uGCons (uName 4) uGNil)))))
    (te_2 K))
def te_0 (K : PySem.W.Frag) : US :=
  (uSeq (uSet 1 (uCall (sp_law_bag K) [] (uCons (uVar 0) uNil)))
    (te_1 K))
theorem law_is (K : PySem.W.Frag) : u_law K = te_0 K := rfl
theorem r_law {ds : List Dat} {S : Store} {K : KE} {X : KX} {KF : PySem.W.Frag} (h : sp_law KF ds S K X) (hb : belows S.length ds) (hS : belows S.length S) : u_law KF (endsOf S K X) (startD ["_law_script", "_law_bag_here", "_law_one", "_law_other", "_law_many", "_law_turned", "_law_lines", "_law_made", "_law_text_here", "_law_due", "_law_wide", "_law_rows", "_law_late", "_law_sides", "_law_set_to", "_law_held", "_law_k", "_law_at"] ds) S := by
  have szl : sizeLine = 16777216 := rfl
  obtain ⟨ns, rfl, hns, hbits, rfl, k⟩ := h
  show u_law KF (endsOf [] K X) (some (.sq KF ns) :: none :: List.replicate 16 none) []
  have fin : ∀ S', (endsOf [] K X).rt (.bl true) S' := fun S' => exit_pure (S0 := []) (R := S') (by simp only [below]) (k _)
  rw [law_is]
  dsimp only [List.replicate]
  unfold te_0
  walk_at "w"
  intro bag hB
  walk_at "w"
  dsimp only [List.nil_append, List.length_nil]
  unfold te_1
  walk_at "w"
  intro one bag hone hB
  walk_at "w"
  intro other bag hother hB
  walk_at "w"
  intro many bag hmany hB
  walk_at "w"
  unfold te_2
  walk_at "w"
  refine ⟨⟨by decide, by decide⟩, ?_⟩
  rw [show ((999 : Int)).toNat = 999 from rfl, rangeD0]
  refine lc_M (List.range 999) (fun n : Nat => natD n) (f := fun i => natD ((i + one) % 999)) True.intro (by rw [List.length_range]; omega) (fun i hi Kt Kf hk => ?_) ?_
  · dsimp only [wipeD, List.set_cons_succ, List.set_cons_zero]
    walk_at "w"
    refine ⟨(by decide : (0 : Int) < 999), ?_⟩
    show Kt (.int (((i : Int) + (one : Int)) % 999)) _
    rw [show (((i : Int) + (one : Int)) % 999) = (((i + one) % 999 : Nat) : Int) by omega]
    exact hk
  have eT : ((List.range 999).map fun i => natD ((i + one) % 999)) = natDs (turnT one) := by
    unfold turnT
    show _ = List.map (fun n : Nat => Dat.int (n : Int)) (List.map _ _)
    rw [List.map_map]; rfl
  rw [eT]
  walk_at "w"
  refine x_tuple rfl ?_
  walk_at "w"
  unfold te_3
  walk_at "w"
  unfold te_4
  walk_at "w"
  have hok : okCs ("xy" : Str).length (lsA one other (turnT one)) := okA (by omega) (by omega) (turn_len one) (turn_le one)
  have ci : ∀ S, isCi KF S (cirD KF "xy" (lsA one other (turnT one))) "xy" (lsA one other (turnT one)) := fun S => ci_here xyA hok (show 0 < 5 by decide) (show 5 ≤ 4000 by decide)
  refine make_ci (ls := lsA one other (turnT one)) xyA rfl (by intro h; cases h) hok (show 0 < 5 by decide) (show 5 ≤ 4000 by decide) lkA ?_
  walk_at "w"
  unfold te_5
  walk_at "w"
  intro t bag ht hw hB
  have ht2 : t.length ≤ 1000000 := by omega
  have hrA : runF "xy" (lsA one other (turnT one)) (firstF (lsA one other (turnT one))) t.cps.toList = [0, (96 + one * many) % 97, 0, other, 0] := by
    rw [firstA, runA _ _ (by decide), cps_len, ht]
  walk_at "w"
  unfold te_6
  walk_at "w"
  refine ⟨(by decide : (0 : Int) < 999), ?_⟩
  walk_at "w"
  refine x_mul (.inl ⟨by omega, by omega⟩) ?_
  walk_at "w"
  refine ⟨(by decide : (0 : Int) < 97), ?_⟩
  walk_at "w"
  unfold te_7
  walk_at "w"
  refine mg_ci (ci _) (by decide +kernel) ?_
  walk_at "w"
  refine ⟨ci _, .inr ⟨t, rfl, ht2, hw, ?_⟩⟩
  rw [hrA, lastA]
  walk_at "w"
  refine mg_ci (ci _) (by decide +kernel) ?_
  walk_at "w"
  refine ⟨ci _, .inr ⟨t, rfl, ht2, hw, ?_⟩⟩
  rw [hrA, packA]
  walk_at "w"
  refine o_law_same ?_ ?_
  · refine same_ls (ys := [natD ((other + one) % 999), .lst (natDs [(96 + one * many) % 97, other])]) rfl (by
      show some [Dat.int (((other : Int) + (one : Int)) % 999), Dat.lst [Dat.int ((96 + (one : Int) * (many : Int)) % 97), Dat.int (other : Int)]] = some [Dat.int (((other + one) % 999 : Nat) : Int), Dat.lst [Dat.int (((96 + one * many) % 97 : Nat) : Int), Dat.int (other : Int)]]
      rw [Int.natCast_emod, Int.natCast_emod, Int.natCast_add, Int.natCast_add, Int.natCast_mul]
      rfl) (Nat.le_of_ble_eq_true rfl) (.cons ?_ (.cons (same_nats (ns := [(96 + one * many) % 97, other]) (lst_cell st1a) rfl (Nat.le_of_ble_eq_true rfl)) .nil))
    rw [turn_at (by omega)]
    exact same_int
  walk_at "w"
  unfold te_8
  walk_at "w"
  intro wk bag hwk hB
  walk_at "w"
  rw [show ((61 : Int) + (wk : Int)) = ((61 + wk : Nat) : Int) by omega]
  generalize hwv : 61 + wk = wide
  dsimp only [List.set_cons_zero, List.cons_append, List.nil_append]
  generalize (Dat.lst (natDs [(96 + one * many) % 97, other]) :: []) = R0
  unfold te_9
  walk_at "w"
  refine ⟨⟨by omega, by omega⟩, ?_⟩
  rw [show ((wide : Nat) : Int).toNat = wide by omega, rangeD0]
  refine lc_M (List.range wide) (fun n : Nat => natD n) (f := fun i => encCL (.counter 2 0 i)) True.intro (by rw [List.length_range]; omega) (fun i hi Kt Kf hk => ?_) ?_
  · dsimp only [wipeD, List.set_cons_succ, List.set_cons_zero]
    walk_at "w"
    exact hk
  refine x_addL (by simp; omega) ?_
  have eB : [Dat.tup [.str "letter"]] ++ (List.range wide).map (fun i => encCL (.counter 2 0 i)) = (lsB wide).map encCL := by
    unfold lsB
    rw [List.map_cons, List.map_map]; rfl
  rw [eB]
  have hal : isAlpha "xy" = true := xyA
  have hokB : okCs ("xy" : Str).length (lsB wide) := okB wide
  have hlB := lsB_len wide
  have hlB2 : (lsB wide).length ≤ 4000 := by omega
  have ciB : ∀ S, isCi KF S (cirD KF "xy" (lsB wide)) "xy" (lsB wide) := fun S => ci_here xyA hokB (by omega) hlB2
  have hfB := run_full hokB t.cps.toList (firstF (lsB wide)) (first_full hokB) (word_mem hw)
  have hlkB := lkB (w := wide) (by omega)
  walk_at "w"
  unfold te_10
  walk_at "w"
  refine make_ci (ls := lsB wide) xyA rfl (by intro h; cases h) hokB (by omega) hlB2 hlkB ?_
  walk_at "w"
  unfold te_11
  walk_at "w"
  generalize hF : runF "xy" (lsB wide) (firstF (lsB wide)) t.cps.toList = F at hfB
  have hFl : F.length = wide + 1 := by rw [hfB.1, hlB]
  unfold te_12
  walk_at "w"
  refine mg_ci (ciB _) (by decide +kernel) ?_
  walk_at "w"
  refine ⟨ciB _, .inr ⟨t, rfl, ht2, hw, ?_⟩⟩
  rw [hF, lastB (by omega) hFl]
  walk_at "w"
  refine mg_ci (ciB _) (by decide +kernel) ?_
  walk_at "w"
  refine ⟨ciB _, .inr ⟨t, rfl, ht2, hw, ?_⟩⟩
  rw [hF, packB hFl]
  walk_at "w"
  refine x_ixL (xs := natDs F) rfl (d := natD (F.getD wide 0)) (at_last' (by show (natDs _)[_]? = _; rw [List.length_map, List.getElem?_map, hFl, Nat.add_sub_cancel, getD_some (by omega)]; rfl) (by rw [List.length_map]; omega)) ?_
  walk_at "w"
  rw [show cutD (natDs F) (some 1) none = natDs (F.drop 1) from cut_rows_from _ F 1]
  refine x_list rfl ?_
  walk_at "w"
  refine o_law_same ?_ ?_
  · exact same_ls (ys := [natD (F.getD wide 0), .lst (natDs (F.drop 1))]) rfl rfl (Nat.le_of_ble_eq_true rfl) (.cons same_int (.cons (same_nats (ns := F.drop 1) (lst_cell (by simp)) rfl (by rw [List.length_drop]; omega)) .nil))
  walk_at "w"
  unfold te_13
  walk_at "w"
  refine ⟨⟨by decide, by decide⟩, ?_⟩
  rw [show ((2 : Int)).toNat = 2 from rfl, rangeD0]
  refine lc_drawP (p := fun k => 0 < k ∧ k ≤ 999) (by omega) (S := bag :: R0 ++ [Dat.lst (natDs (F.drop 1))]) (b := 0) rfl hB (fun j S2 Kt hS2 hk => ?_) (fun _ => True.intro) (fun ss bag hsl hsx hB => ?_)
  · dsimp only [wipeD, List.set_cons_succ, List.set_cons_zero]
    obtain ⟨bag2, rfl, hB2⟩ := hS2
    walk_at "w"
    intro q bag3 hq hB3
    walk_at "w"
    exact hk (q + 1) bag3 ⟨by omega, by omega⟩ hB3
  obtain ⟨s0, s1, rfl⟩ : ∃ s0 s1, ss = [s0, s1] := by
    match ss, hsl with
    | [a, b], _ => exact ⟨a, b, rfl⟩
  have hs0 := hsx s0 List.mem_cons_self
  dsimp only [List.set_cons_zero, List.cons_append]
  generalize R0 ++ [Dat.lst (natDs (F.drop 1))] = R1
  walk_at "w"
  unfold te_14
  walk_at "w"
  have hokC : okCs ("xy" : Str).length (lsC s0) := okC hs0.2
  have ciC : ∀ S, isCi KF S (cirD KF "xy" (lsC s0)) "xy" (lsC s0) := fun S => ci_here xyA hokC (show 0 < 3 by decide) (show 3 ≤ 4000 by decide)
  refine x_ixL (xs := natDs [s0, s1]) rfl (show atI (natDs [s0, s1]) 0 = some (natD s0) from rfl) ?_
  walk_at "w"
  refine make_ci (ls := lsC s0) xyA rfl (by intro h; cases h) hokC (show 0 < 3 by decide) (show 3 ≤ 4000 by decide) lkC ?_
  walk_at "w"
  unfold te_15
  walk_at "w"
  refine ⟨rfl, ?_⟩
  walk_at "w"
  unfold te_16
  walk_at "w"
  have ly : ("y" : Str).length = 1 := by decide +kernel
  refine mg_ci (ciC _) (by decide +kernel) ?_
  walk_at "w"
  refine x_repS (by rw [ly]; omega) (by omega) ?_
  walk_at "w"
  refine ⟨ciC _, .inr ⟨repS many "y", rfl, by rw [l_ys]; omega, w_ys _, ?_⟩⟩
  rw [ys_cps, show firstF (lsC s0) = [0, 0, 5] from rfl, runC1, lastC]
  walk_at "w"
  refine mg_ci (ciC _) (by decide +kernel) ?_
  walk_at "w"
  refine x_repS (by rw [ly]; omega) (by omega) ?_
  walk_at "w"
  refine x_addS (by rw [l_ys]; have : ("yx" : Str).length = 2 := by decide +kernel
                    omega) ?_
  walk_at "w"
  refine ⟨ciC _, .inr ⟨"yx" ++ repS many "y", rfl, by rw [l_yx]; omega, w_yx _, ?_⟩⟩
  rw [yx_cps, show firstF (lsC s0) = [0, 0, 5] from rfl, runC2 hs0.1, lastC]
  walk_at "w"
  refine x_ixL (xs := natDs [s0, s1]) rfl (show atI (natDs [s0, s1]) 0 = some (natD s0) from rfl) ?_
  walk_at "w"
  refine o_law_same ?_ ?_
  · refine same_ls (ys := [natD 5, natD (s0 - 1)]) rfl (by
      show some [Dat.int 5, Dat.int ((s0 : Int) - 1)] = some [Dat.int 5, Dat.int ((s0 - 1 : Nat) : Int)]
      rw [show ((s0 : Int) - 1) = ((s0 - 1 : Nat) : Int) by omega]) (Nat.le_of_ble_eq_true rfl) (.cons same_int (.cons same_int .nil))
  walk_at "w"
  exact fin _
end DL
namespace DL.KL
open PySem L2 DL NdefX
abbrev N_is_number : List Str := ["value", "least", "most"]
theorem sc_is_number : FnScope N_is_number ["value", "least", "most"] (defScope s_is_number) := ⟨rfl, rfl, rfl, by decide +kernel, rfl, by decide +kernel, by decide +kernel⟩
abbrev N_is_prime : List Str := ["value", "most", "divisor"]
theorem sc_is_prime : FnScope N_is_prime ["value", "most"] (defScope s_is_prime) := ⟨rfl, rfl, rfl, by decide +kernel, rfl, by decide +kernel, by decide +kernel⟩
abbrev N_ascends : List Str := ["letters", "one", "other"]
theorem sc_ascends : FnScope N_ascends ["letters"] (defScope s_ascends) := ⟨rfl, rfl, rfl, by decide +kernel, rfl, by decide +kernel, by decide +kernel⟩
abbrev N_is_alphabet : List Str := ["value", "sign"]
theorem sc_is_alphabet : FnScope N_is_alphabet ["value"] (defScope s_is_alphabet) := ⟨rfl, rfl, rfl, by decide +kernel, rfl, by decide +kernel, by decide +kernel⟩
abbrev N_is_word : List Str := ["alphabet", "value", "sign"]
theorem sc_is_word : FnScope N_is_word ["alphabet", "value"] (defScope s_is_word) := ⟨rfl, rfl, rfl, by decide +kernel, rfl, by decide +kernel, by decide +kernel⟩
abbrev N_need_alphabet : List Str := ["value"]
theorem sc_need_alphabet : FnScope N_need_alphabet ["value"] (defScope s_need_alphabet) := ⟨rfl, rfl, rfl, by decide +kernel, rfl, by decide +kernel, by decide +kernel⟩
abbrev N_need_word : List Str := ["alphabet", "value"]
theorem sc_need_word : FnScope N_need_word ["alphabet", "value"] (defScope s_need_word) := ⟨rfl, rfl, rfl, by decide +kernel, rfl, by decide +kernel, by decide +kernel⟩
abbrev N_is_table : List Str := ["value", "size", "one"]
theorem sc_is_table : FnScope N_is_table ["value", "size"] (defScope s_is_table) := ⟨rfl, rfl, rfl, by decide +kernel, rfl, by decide +kernel, by decide +kernel⟩
abbrev N_size_of_table : List Str := ["value", "sizes", "row"]
theorem sc_size_of_table : FnScope N_size_of_table ["value", "sizes"] (defScope s_size_of_table) := ⟨rfl, rfl, rfl, by decide +kernel, rfl, by decide +kernel, by decide +kernel⟩
abbrev N_size_of_cell : List Str := ["line", "sizes", "many", "first", "ref", "good"]
theorem sc_size_of_cell : FnScope N_size_of_cell ["line", "sizes"] (defScope s_size_of_cell) := ⟨rfl, rfl, rfl, by decide +kernel, rfl, by decide +kernel, by decide +kernel⟩
abbrev N_size_of_line : List Str := ["line", "sizes", "letters", "ref"]
theorem sc_size_of_line : FnScope N_size_of_line ["line", "sizes", "letters"] (defScope s_size_of_line) := ⟨rfl, rfl, rfl, by decide +kernel, rfl, by decide +kernel, by decide +kernel⟩
abbrev N_refs_of : List Str := ["line"]
theorem sc_refs_of : FnScope N_refs_of ["line"] (defScope s_refs_of) := ⟨rfl, rfl, rfl, by decide +kernel, rfl, by decide +kernel, by decide +kernel⟩
abbrev N_is_cell : List Str := ["line"]
theorem sc_is_cell : FnScope N_is_cell ["line"] (defScope s_is_cell) := ⟨rfl, rfl, rfl, by decide +kernel, rfl, by decide +kernel, by decide +kernel⟩
abbrev N_changed : List Str := ["line", "side", "value"]
theorem sc_changed : FnScope N_changed ["line", "side", "value"] (defScope s_changed) := ⟨rfl, rfl, rfl, by decide +kernel, rfl, by decide +kernel, by decide +kernel⟩
abbrev N_Circuit_init : List Str := ["self", "alphabet", "lines", "found", "looking", "at", "line", "size", "ref"]
theorem sc_Circuit_init : FnScope N_Circuit_init ["self", "alphabet", "lines"] (defScope s_Circuit_init) := ⟨rfl, rfl, rfl, by decide +kernel, rfl, by decide +kernel, by decide +kernel⟩
abbrev N_Circuit_sizes : List Str := ["self"]
theorem sc_Circuit_sizes : FnScope N_Circuit_sizes ["self"] (defScope s_Circuit_sizes) := ⟨rfl, rfl, rfl, by decide +kernel, rfl, by decide +kernel, by decide +kernel⟩
abbrev N_Circuit_first_sides : List Str := ["self", "at"]
theorem sc_Circuit_first_sides : FnScope N_Circuit_first_sides ["self"] (defScope s_Circuit_first_sides) := ⟨rfl, rfl, rfl, by decide +kernel, rfl, by decide +kernel, by decide +kernel⟩
abbrev N_Circuit_value_of : List Str := ["self", "line", "values", "letter", "found", "ref"]
theorem sc_Circuit_value_of : FnScope N_Circuit_value_of ["self", "line", "values", "letter"] (defScope s_Circuit_value_of) := ⟨rfl, rfl, rfl, by decide +kernel, rfl, by decide +kernel, by decide +kernel⟩
abbrev N_Circuit_line_values : List Str := ["self", "sides", "letter", "found", "at", "line"]
theorem sc_Circuit_line_values : FnScope N_Circuit_line_values ["self", "sides", "letter"] (defScope s_Circuit_line_values) := ⟨rfl, rfl, rfl, by decide +kernel, rfl, by decide +kernel, by decide +kernel⟩
abbrev N_Circuit_stepped : List Str := ["self", "sides", "letter", "found", "at", "side"]
theorem sc_Circuit_stepped : FnScope N_Circuit_stepped ["self", "sides", "letter"] (defScope s_Circuit_stepped) := ⟨rfl, rfl, rfl, by decide +kernel, rfl, by decide +kernel, by decide +kernel⟩
abbrev N_Circuit_value_with : List Str := ["self", "sides"]
theorem sc_Circuit_value_with : FnScope N_Circuit_value_with ["self", "sides"] (defScope s_Circuit_value_with) := ⟨rfl, rfl, rfl, by decide +kernel, rfl, by decide +kernel, by decide +kernel⟩
abbrev N_Circuit_sides_after : List Str := ["self", "word", "sides", "letter"]
theorem sc_Circuit_sides_after : FnScope N_Circuit_sides_after ["self", "word"] (defScope s_Circuit_sides_after) := ⟨rfl, rfl, rfl, by decide +kernel, rfl, by decide +kernel, by decide +kernel⟩
abbrev N_Circuit_after : List Str := ["self", "word"]
theorem sc_Circuit_after : FnScope N_Circuit_after ["self", "word"] (defScope s_Circuit_after) := ⟨rfl, rfl, rfl, by decide +kernel, rfl, by decide +kernel, by decide +kernel⟩
abbrev N_law_bag : List Str := ["_law_script", "_law_mixed", "_law_cell"]
theorem sc_law_bag : FnScope N_law_bag ["_law_script"] (defScope s_law_bag) := ⟨rfl, rfl, rfl, by decide +kernel, rfl, by decide +kernel, by decide +kernel⟩
abbrev N_law_pull : List Str := ["_law_bag_here", "_law_sides", "_law_cell", "_law_digit", "_law_twice"]
theorem sc_law_pull : FnScope N_law_pull ["_law_bag_here", "_law_sides"] (defScope s_law_pull) := ⟨rfl, rfl, rfl, by decide +kernel, rfl, by decide +kernel, by decide +kernel⟩
abbrev N_law_of : List Str := ["_law_bag_here", "_law_some"]
theorem sc_law_of : FnScope N_law_of ["_law_bag_here", "_law_some"] (defScope s_law_of) := ⟨rfl, rfl, rfl, by decide +kernel, rfl, by decide +kernel, by decide +kernel⟩
abbrev N_law_same : List Str := ["_law_found", "_law_due", "_law_a", "_law_b"]
theorem sc_law_same : FnScope N_law_same ["_law_found", "_law_due"] (defScope s_law_same) := ⟨rfl, rfl, rfl, by decide +kernel, rfl, by decide +kernel, by decide +kernel⟩
abbrev N_law_text : List Str := ["_law_bag_here", "_law_signs", "_law_size", "_law_k"]
theorem sc_law_text : FnScope N_law_text ["_law_bag_here", "_law_signs", "_law_size"] (defScope s_law_text) := ⟨rfl, rfl, rfl, by decide +kernel, rfl, by decide +kernel, by decide +kernel⟩
abbrev N_law_values : List Str := ["_law_lines", "_law_sides", "_law_letter", "_law_found", "_law_at", "_law_line"]
theorem sc_law_values : FnScope N_law_values ["_law_lines", "_law_sides", "_law_letter"] (defScope s_law_values) := ⟨rfl, rfl, rfl, by decide +kernel, rfl, by decide +kernel, by decide +kernel⟩
abbrev N_law_begin : List Str := ["_law_lines", "_law_line"]
theorem sc_law_begin : FnScope N_law_begin ["_law_lines"] (defScope s_law_begin) := ⟨rfl, rfl, rfl, by decide +kernel, rfl, by decide +kernel, by decide +kernel⟩
abbrev N_law_step : List Str := ["_law_lines", "_law_sides", "_law_letter", "_law_values_here", "_law_found", "_law_at", "_law_line"]
theorem sc_law_step : FnScope N_law_step ["_law_lines", "_law_sides", "_law_letter"] (defScope s_law_step) := ⟨rfl, rfl, rfl, by decide +kernel, rfl, by decide +kernel, by decide +kernel⟩
abbrev N_law_run : List Str := ["_law_lines", "_law_signs", "_law_text_here", "_law_sides", "_law_sign"]
theorem sc_law_run : FnScope N_law_run ["_law_lines", "_law_signs", "_law_text_here"] (defScope s_law_run) := ⟨rfl, rfl, rfl, by decide +kernel, rfl, by decide +kernel, by decide +kernel⟩
abbrev N_law_greatest_so : List Str := ["_law_table", "_law_high", "_law_told"]
theorem sc_law_greatest_so : FnScope N_law_greatest_so [] (defScope s_law_greatest_so) := ⟨rfl, rfl, rfl, by decide +kernel, rfl, by decide +kernel, by decide +kernel⟩
abbrev N_law : List Str := ["_law_script", "_law_bag_here", "_law_one", "_law_other", "_law_many", "_law_turned", "_law_lines", "_law_made", "_law_text_here", "_law_due", "_law_wide", "_law_rows", "_law_late", "_law_sides", "_law_set_to", "_law_held", "_law_k", "_law_at"]
theorem sc_law : FnScope N_law ["_law_script"] (defScope s_law) := ⟨rfl, rfl, rfl, by decide +kernel, rfl, by decide +kernel, by decide +kernel⟩
theorem ss_InvalidAlphabet : DX.SupScope ["self", "given"] ["self", "given"] (defScope s_InvalidAlphabet_init) := ⟨rfl, rfl, rfl, by decide +kernel, rfl, by decide +kernel, by decide +kernel, fun y h => one_free (by decide +kernel) h, by decide +kernel, by decide +kernel⟩
theorem ss_InvalidWord : DX.SupScope ["self", "given"] ["self", "given"] (defScope s_InvalidWord_init) := ⟨rfl, rfl, rfl, by decide +kernel, rfl, by decide +kernel, by decide +kernel, fun y h => one_free (by decide +kernel) h, by decide +kernel, by decide +kernel⟩
theorem ss_InvalidLine : DX.SupScope ["self", "at"] ["self", "at"] (defScope s_InvalidLine_init) := ⟨rfl, rfl, rfl, by decide +kernel, rfl, by decide +kernel, by decide +kernel, fun y h => one_free (by decide +kernel) h, by decide +kernel, by decide +kernel⟩
theorem ss_TooMany : DX.SupScope ["self", "subject", "most"] ["self", "subject", "most"] (defScope s_TooMany_init) := ⟨rfl, rfl, rfl, by decide +kernel, rfl, by decide +kernel, by decide +kernel, fun y h => one_free (by decide +kernel) h, by decide +kernel, by decide +kernel⟩
def tbs (K : PySem.W.Frag) : List (Addr × Str) := []
structure Tx (P : Program) (K : PySem.W.Frag) (mg : Str → Option Value) : Prop where
  pf : P.main.file = file
  ps : (P.main.scope.names.lookup ("super" : Str)).isSome = false
  sup : ∀ s ∈ sd, DX.supW K (DX.initAd K s.cls) = s.val ∧ s.ok K file = true
  more : ex K = true
  n_int : mg "int" = none
  n_isinstance : mg "isinstance" = none
  n_bool : mg "bool" = none
  g_is_number : mg "is_number" = some (.ref (He.ga K "is_number"))
  n_zip : mg "zip" = none
  n_all : mg "all" = none
  n_str : mg "str" = none
  n_len : mg "len" = none
  i_MOST_LETTERS : ∃ t, mg "MOST_LETTERS" = some (.int 4 t)
  s_SMALL : ∃ t, mg "SMALL" = some (.str "abcdefghijklmnopqrstuvwxyz" t)
  g_ascends : mg "ascends" = some (.ref (He.ga K "ascends"))
  g_is_alphabet : mg "is_alphabet" = some (.ref (He.ga K "is_alphabet"))
  g_InvalidAlphabet : mg "InvalidAlphabet" = some (.ref (He.ga K "InvalidAlphabet"))
  g_is_word : mg "is_word" = some (.ref (He.ga K "is_word"))
  g_InvalidWord : mg "InvalidWord" = some (.ref (He.ga K "InvalidWord"))
  n_tuple : mg "tuple" = none
  i_MOST_VALUE : ∃ t, mg "MOST_VALUE" = some (.int 999 t)
  g_is_table : mg "is_table" = some (.ref (He.ga K "is_table"))
  n_max : mg "max" = none
  i_MOST_PRIME : ∃ t, mg "MOST_PRIME" = some (.int 97 t)
  g_is_prime : mg "is_prime" = some (.ref (He.ga K "is_prime"))
  g_size_of_cell : mg "size_of_cell" = some (.ref (He.ga K "size_of_cell"))
  g_size_of_table : mg "size_of_table" = some (.ref (He.ga K "size_of_table"))
  n_list : mg "list" = none
  g_need_alphabet : mg "need_alphabet" = some (.ref (He.ga K "need_alphabet"))
  g_InvalidLine : mg "InvalidLine" = some (.ref (He.ga K "InvalidLine"))
  i_MOST_LINES : ∃ t, mg "MOST_LINES" = some (.int 4000 t)
  g_TooMany : mg "TooMany" = some (.ref (He.ga K "TooMany"))
  n_enumerate : mg "enumerate" = none
  g_size_of_line : mg "size_of_line" = some (.ref (He.ga K "size_of_line"))
  g_is_cell : mg "is_cell" = some (.ref (He.ga K "is_cell"))
  g_refs_of : mg "refs_of" = some (.ref (He.ga K "refs_of"))
  n_any : mg "any" = none
  cl_Circuit : Cls K (He.ga K "Circuit")
  na_Circuit_own_alphabet : NoAttr K (He.ga K "Circuit") "own_alphabet"
  na_Circuit_own_lines : NoAttr K (He.ga K "Circuit") "own_lines"
  na_Circuit_own_sizes : NoAttr K (He.ga K "Circuit") "own_sizes"
  na_Circuit_looking : NoAttr K (He.ga K "Circuit") "looking"
  na_Circuit_own_cells : NoAttr K (He.ga K "Circuit") "own_cells"
  g_changed : mg "changed" = some (.ref (He.ga K "changed"))
  g_need_word : mg "need_word" = some (.ref (He.ga K "need_word"))
  n_abs : mg "abs" = none
  g_law_pull : mg "_law_pull" = some (.ref (He.ga K "_law_pull"))
  g_law_same : mg "_law_same" = some (.ref (He.ga K "_law_same"))
  n_range : mg "range" = none
  g_law_of : mg "_law_of" = some (.ref (He.ga K "_law_of"))
  g_law_values : mg "_law_values" = some (.ref (He.ga K "_law_values"))
  g_law_begin : mg "_law_begin" = some (.ref (He.ga K "_law_begin"))
  g_law_step : mg "_law_step" = some (.ref (He.ga K "_law_step"))
  g_Circuit : mg "Circuit" = some (.ref (He.ga K "Circuit"))
  g_law_bag : mg "_law_bag" = some (.ref (He.ga K "_law_bag"))
  g_law_text : mg "_law_text" = some (.ref (He.ga K "_law_text"))
  g_law_run : mg "_law_run" = some (.ref (He.ga K "_law_run"))
  g_law_greatest_so : mg "_law_greatest_so" = some (.ref (He.ga K "_law_greatest_so"))
  me_Circuit_value_of : Meth K (He.ga K "Circuit") "value_of" (He.ma K (He.ga K "Circuit") "value_of")
  me_Circuit_line_values : Meth K (He.ga K "Circuit") "line_values" (He.ma K (He.ga K "Circuit") "line_values")
  me_Circuit_first_sides : Meth K (He.ga K "Circuit") "first_sides" (He.ma K (He.ga K "Circuit") "first_sides")
  me_Circuit_stepped : Meth K (He.ga K "Circuit") "stepped" (He.ma K (He.ga K "Circuit") "stepped")
  me_Circuit_sides_after : Meth K (He.ga K "Circuit") "sides_after" (He.ma K (He.ga K "Circuit") "sides_after")
  me_Circuit_value_with : Meth K (He.ga K "Circuit") "value_with" (He.ma K (He.ga K "Circuit") "value_with")
  me_Circuit_after : Meth K (He.ga K "Circuit") "after" (He.ma K (He.ga K "Circuit") "after")
  me_Circuit_sizes : Meth K (He.ga K "Circuit") "sizes" (He.ma K (He.ga K "Circuit") "sizes")
  mk_Circuit : Mk K (He.ga K "Circuit") (He.ma K (He.ga K "Circuit") "__init__")
  n_super : mg "super" = none
  d_is_number : ∃ fd, FunD K "is_number" "is_number" (defArgs s_is_number) (defBody s_is_number) (defScope s_is_number) [.non] [] (He.ga K "is_number") fd
  d_is_prime : ∃ fd, FunD K "is_prime" "is_prime" (defArgs s_is_prime) (defBody s_is_prime) (defScope s_is_prime) [] [] (He.ga K "is_prime") fd
  d_ascends : ∃ fd, FunD K "ascends" "ascends" (defArgs s_ascends) (defBody s_ascends) (defScope s_ascends) [] [] (He.ga K "ascends") fd
  d_is_alphabet : ∃ fd, FunD K "is_alphabet" "is_alphabet" (defArgs s_is_alphabet) (defBody s_is_alphabet) (defScope s_is_alphabet) [] [] (He.ga K "is_alphabet") fd
  d_is_word : ∃ fd, FunD K "is_word" "is_word" (defArgs s_is_word) (defBody s_is_word) (defScope s_is_word) [] [] (He.ga K "is_word") fd
  d_need_alphabet : ∃ fd, FunD K "need_alphabet" "need_alphabet" (defArgs s_need_alphabet) (defBody s_need_alphabet) (defScope s_need_alphabet) [] [] (He.ga K "need_alphabet") fd
  d_need_word : ∃ fd, FunD K "need_word" "need_word" (defArgs s_need_word) (defBody s_need_word) (defScope s_need_word) [] [] (He.ga K "need_word") fd
  d_is_table : ∃ fd, FunD K "is_table" "is_table" (defArgs s_is_table) (defBody s_is_table) (defScope s_is_table) [] [] (He.ga K "is_table") fd
  d_size_of_table : ∃ fd, FunD K "size_of_table" "size_of_table" (defArgs s_size_of_table) (defBody s_size_of_table) (defScope s_size_of_table) [] [] (He.ga K "size_of_table") fd
  d_size_of_cell : ∃ fd, FunD K "size_of_cell" "size_of_cell" (defArgs s_size_of_cell) (defBody s_size_of_cell) (defScope s_size_of_cell) [] [] (He.ga K "size_of_cell") fd
  d_size_of_line : ∃ fd, FunD K "size_of_line" "size_of_line" (defArgs s_size_of_line) (defBody s_size_of_line) (defScope s_size_of_line) [] [] (He.ga K "size_of_line") fd
  d_refs_of : ∃ fd, FunD K "refs_of" "refs_of" (defArgs s_refs_of) (defBody s_refs_of) (defScope s_refs_of) [] [] (He.ga K "refs_of") fd
  d_is_cell : ∃ fd, FunD K "is_cell" "is_cell" (defArgs s_is_cell) (defBody s_is_cell) (defScope s_is_cell) [] [] (He.ga K "is_cell") fd
  d_changed : ∃ fd, FunD K "changed" "changed" (defArgs s_changed) (defBody s_changed) (defScope s_changed) [] [] (He.ga K "changed") fd
  d_Circuit_init : ∃ fd, FunD K "__init__" "Circuit.__init__" (defArgs s_Circuit_init) (defBody s_Circuit_init) (defScope s_Circuit_init) [] [] (He.ma K (He.ga K "Circuit") "__init__") fd
  d_Circuit_sizes : ∃ fd, FunD K "sizes" "Circuit.sizes" (defArgs s_Circuit_sizes) (defBody s_Circuit_sizes) (defScope s_Circuit_sizes) [] [] (He.ma K (He.ga K "Circuit") "sizes") fd
  d_Circuit_first_sides : ∃ fd, FunD K "first_sides" "Circuit.first_sides" (defArgs s_Circuit_first_sides) (defBody s_Circuit_first_sides) (defScope s_Circuit_first_sides) [] [] (He.ma K (He.ga K "Circuit") "first_sides") fd
  d_Circuit_value_of : ∃ fd, FunD K "value_of" "Circuit.value_of" (defArgs s_Circuit_value_of) (defBody s_Circuit_value_of) (defScope s_Circuit_value_of) [] [] (He.ma K (He.ga K "Circuit") "value_of") fd
  d_Circuit_line_values : ∃ fd, FunD K "line_values" "Circuit.line_values" (defArgs s_Circuit_line_values) (defBody s_Circuit_line_values) (defScope s_Circuit_line_values) [] [] (He.ma K (He.ga K "Circuit") "line_values") fd
  d_Circuit_stepped : ∃ fd, FunD K "stepped" "Circuit.stepped" (defArgs s_Circuit_stepped) (defBody s_Circuit_stepped) (defScope s_Circuit_stepped) [] [] (He.ma K (He.ga K "Circuit") "stepped") fd
  d_Circuit_value_with : ∃ fd, FunD K "value_with" "Circuit.value_with" (defArgs s_Circuit_value_with) (defBody s_Circuit_value_with) (defScope s_Circuit_value_with) [] [] (He.ma K (He.ga K "Circuit") "value_with") fd
  d_Circuit_sides_after : ∃ fd, FunD K "sides_after" "Circuit.sides_after" (defArgs s_Circuit_sides_after) (defBody s_Circuit_sides_after) (defScope s_Circuit_sides_after) [] [] (He.ma K (He.ga K "Circuit") "sides_after") fd
  d_Circuit_after : ∃ fd, FunD K "after" "Circuit.after" (defArgs s_Circuit_after) (defBody s_Circuit_after) (defScope s_Circuit_after) [] [] (He.ma K (He.ga K "Circuit") "after") fd
  d_law_bag : ∃ fd, FunD K "_law_bag" "_law_bag" (defArgs s_law_bag) (defBody s_law_bag) (defScope s_law_bag) [] [] (He.ga K "_law_bag") fd
  d_law_pull : ∃ fd, FunD K "_law_pull" "_law_pull" (defArgs s_law_pull) (defBody s_law_pull) (defScope s_law_pull) [] [] (He.ga K "_law_pull") fd
  d_law_of : ∃ fd, FunD K "_law_of" "_law_of" (defArgs s_law_of) (defBody s_law_of) (defScope s_law_of) [] [] (He.ga K "_law_of") fd
  d_law_same : ∃ fd, FunD K "_law_same" "_law_same" (defArgs s_law_same) (defBody s_law_same) (defScope s_law_same) [] [] (He.ga K "_law_same") fd
  d_law_text : ∃ fd, FunD K "_law_text" "_law_text" (defArgs s_law_text) (defBody s_law_text) (defScope s_law_text) [] [] (He.ga K "_law_text") fd
  d_law_values : ∃ fd, FunD K "_law_values" "_law_values" (defArgs s_law_values) (defBody s_law_values) (defScope s_law_values) [] [] (He.ga K "_law_values") fd
  d_law_begin : ∃ fd, FunD K "_law_begin" "_law_begin" (defArgs s_law_begin) (defBody s_law_begin) (defScope s_law_begin) [] [] (He.ga K "_law_begin") fd
  d_law_step : ∃ fd, FunD K "_law_step" "_law_step" (defArgs s_law_step) (defBody s_law_step) (defScope s_law_step) [] [] (He.ga K "_law_step") fd
  d_law_run : ∃ fd, FunD K "_law_run" "_law_run" (defArgs s_law_run) (defBody s_law_run) (defScope s_law_run) [] [] (He.ga K "_law_run") fd
  d_law_greatest_so : ∃ fd, FunD K "_law_greatest_so" "_law_greatest_so" (defArgs s_law_greatest_so) (defBody s_law_greatest_so) (defScope s_law_greatest_so) [] [] (He.ga K "_law_greatest_so") fd
  d_law : ∃ fd, FunD K "law" "law" (defArgs s_law) (defBody s_law) (defScope s_law) [] [] (He.ga K "law") fd
section
variable {P : Program} {w : World} {K : PySem.W.Frag} {mg : Str → Option Value}
theorem Tx.fi (T : Tx P K mg) : ∀ x ∈ errs ++ (["InvalidAlphabet", "InvalidWord", "InvalidLine", "TooMany"] : List PySem.Str), xfB K (He.ga K x) = true ∧ ∀ f ∈ flds, PySem.W.findIn K (.ref (He.ga K x)) f = some none := fun x hx => by
  obtain ⟨_, h⟩ := He.ba (He.ba T.more).1
  obtain ⟨h1, h2⟩ := He.ba (List.all_eq_true.mp h x hx)
  exact ⟨h1, fun f hf => He.eqO_ok (List.all_eq_true.mp h2 f hf)⟩
theorem tr_InvalidAlphabet (T : Tx P K mg) (base : Heap) : RaiseV P w K mg base 1 (He.ga K "InvalidAlphabet") [("code", .c "InvalidAlphabet"), ("given", .a 0)] 1 false := by
  obtain ⟨h1, h2⟩ := T.sup sd_InvalidAlphabet List.mem_cons_self
  rw [← T.pf] at h2
  obtain ⟨cc, cda, fd, Tc, hd, iC, tI⟩ := DX.SupD.supK (P := P) h1 h2 ⟨_, rfl, rfl⟩ T.ps
  exact ⟨_, fd, _, Tc.oex, iC, tI, DL.FnOk.ini (DX.ini1 (k := 0) Tc ss_InvalidAlphabet T.n_super ((T.fi "InvalidAlphabet" (by decide)).2 "given" (by decide)) ((T.fi "InvalidAlphabet" (by decide)).2 "code" (by decide)) (by decide) (by decide) (fun _ => rfl)) (fun ws h => True.intro), Tc.binds (ps := ["self", "given"]) hd (fun _ _ _ _ _ _ us hl => match us, hl with | [_, _], _ => rfl)⟩
theorem tr_InvalidWord (T : Tx P K mg) (base : Heap) : RaiseV P w K mg base 1 (He.ga K "InvalidWord") [("code", .c "InvalidWord"), ("given", .a 0)] 1 false := by
  obtain ⟨h1, h2⟩ := T.sup sd_InvalidWord (List.mem_cons_of_mem _ List.mem_cons_self)
  rw [← T.pf] at h2
  obtain ⟨cc, cda, fd, Tc, hd, iC, tI⟩ := DX.SupD.supK (P := P) h1 h2 ⟨_, rfl, rfl⟩ T.ps
  exact ⟨_, fd, _, Tc.oex, iC, tI, DL.FnOk.ini (DX.ini1 (k := 0) Tc ss_InvalidWord T.n_super ((T.fi "InvalidWord" (by decide)).2 "given" (by decide)) ((T.fi "InvalidWord" (by decide)).2 "code" (by decide)) (by decide) (by decide) (fun _ => rfl)) (fun ws h => True.intro), Tc.binds (ps := ["self", "given"]) hd (fun _ _ _ _ _ _ us hl => match us, hl with | [_, _], _ => rfl)⟩
theorem tr_InvalidLine (T : Tx P K mg) (base : Heap) : RaiseV P w K mg base 1 (He.ga K "InvalidLine") [("code", .c "InvalidLine"), ("at", .a 0)] 1 false := by
  obtain ⟨h1, h2⟩ := T.sup sd_InvalidLine (List.mem_cons_of_mem _ (List.mem_cons_of_mem _ List.mem_cons_self))
  rw [← T.pf] at h2
  obtain ⟨cc, cda, fd, Tc, hd, iC, tI⟩ := DX.SupD.supK (P := P) h1 h2 ⟨_, rfl, rfl⟩ T.ps
  exact ⟨_, fd, _, Tc.oex, iC, tI, DL.FnOk.ini (DX.ini1 (k := 0) Tc ss_InvalidLine T.n_super ((T.fi "InvalidLine" (by decide)).2 "at" (by decide)) ((T.fi "InvalidLine" (by decide)).2 "code" (by decide)) (by decide) (by decide) (fun _ => rfl)) (fun ws h => True.intro), Tc.binds (ps := ["self", "at"]) hd (fun _ _ _ _ _ _ us hl => match us, hl with | [_, _], _ => rfl)⟩
theorem tr_TooMany (T : Tx P K mg) (base : Heap) : RaiseV P w K mg base 1 (He.ga K "TooMany") [("code", .c "TooMany"), ("most", .a 1), ("subject", .a 0)] 2 true := by
  obtain ⟨h1, h2⟩ := T.sup sd_TooMany (List.mem_cons_of_mem _ (List.mem_cons_of_mem _ (List.mem_cons_of_mem _ List.mem_cons_self)))
  rw [← T.pf] at h2
  obtain ⟨cc, cda, fd, Tc, hd, iC, tI⟩ := DX.SupD.supK (P := P) h1 h2 ⟨_, rfl, rfl⟩ T.ps
  exact ⟨_, fd, _, Tc.oex, iC, tI, DL.FnOk.ini (DX.ini2 (k := 0) Tc ss_TooMany T.n_super T.n_str (by decide +kernel) (by decide) ((T.fi "TooMany" (by decide)).2 "subject" (by decide)) ((T.fi "TooMany" (by decide)).2 "most" (by decide)) ((T.fi "TooMany" (by decide)).2 "code" (by decide)) (by decide) (by decide) (by decide) (by decide) (fun _ => rfl)) (fun ws h => h rfl), Tc.binds (ps := ["self", "subject", "most"]) hd (fun _ _ _ _ _ _ us hl => match us, hl with | [_, _, _], _ => rfl)⟩
theorem ok_is_number [Tabl] (T : Tx P K mg) (base : Heap) : ∃ fd, FunD K "is_number" "is_number" (defArgs s_is_number) (defBody s_is_number) (defScope s_is_number) [.non] [] (He.ga K "is_number") fd ∧ FnOk P w K mg base (L2.CX P w) 1 (He.ga K "is_number") fd ["value", "least", "most"] (spOf (sp_is_number K)) := by
  obtain ⟨fd, F⟩ := T.d_is_number
  refine ⟨fd, F, fnD (k := 0) F sc_is_number (fun ds S K X h => len_is_number h) ?hb (u := u_is_number K) (fun ds S K X h hb hS => r_is_number h hb hS)⟩
  intro cdv A outer s H E hr tk
  exact ⟨_, (dss_cons (ds_if (DW.dt (dw_or (dt_not (dt_tru (de_callB dcb_isi T.n_isinstance (da_cons (de_var 0) (da_cons (de_ty T.n_int) da_nil))))) (dw_or (dt_tru (de_callB dcb_isi T.n_isinstance (da_cons (de_var 0) (da_cons (de_ty T.n_bool) da_nil)))) (dw_or1 (dt_cmp dop_lt (de_var 0) (de_var 1)))))) (dss_one (ds_ret de_bl)) dss_nil)
    (dss_one (ds_ret (de_or (de_cmp dop_is (de_var 2) de_non) (de_one (de_cmp dop_le (de_var 0) (de_var 2)))))))⟩
theorem cis_number_3 [Tabl] (T : Tx P K mg) (base : Heap) : CalleeV P w K mg base 1 (He.ga K "is_number") ["value", "least", "most"] (sp_is_number K) [] [] := by
  obtain ⟨fd, F, G⟩ := ok_is_number (P := P) (w := w) T base
  obtain ⟨ds, vd, b⟩ := F.binds1 (ps := ["value", "least", "most"]) 3 1 (by simp) rfl (fun _ _ _ _ _ _ _ us its l1 l2 => match us, its, l1, l2 with | [_, _, _], [_], _, _ => ⟨_, rfl, rfl⟩)
  exact ⟨fd, ds, G, F.kp, b, vd, True.intro⟩
theorem ok_is_prime [Tabl] (T : Tx P K mg) (base : Heap) : ∃ fd, FunD K "is_prime" "is_prime" (defArgs s_is_prime) (defBody s_is_prime) (defScope s_is_prime) [] [] (He.ga K "is_prime") fd ∧ FnOk P w K mg base (L2.CX P w) 2 (He.ga K "is_prime") fd ["value", "most"] (spOf (sp_is_prime K)) := by
  have c_is_number_3 := cis_number_3 (P := P) (w := w) T base
  obtain ⟨fd, F⟩ := T.d_is_prime
  refine ⟨fd, F, fnD (k := 1) F sc_is_prime (fun ds S K X h => len_is_prime h) ?hb (u := u_is_prime K) (fun ds S K X h hb hS => r_is_prime h hb hS)⟩
  intro cdv A outer s H E hr tk
  exact ⟨_, (dss_cons (ds_if (dt_not (dt_tru (de_callF c_is_number_3 hr (by first | decide | omega) T.g_is_number tk (da_cons (de_var 0) (da_cons de_int (da_cons (de_var 1) da_nil)))))) (dss_one (ds_ret de_bl)) dss_nil)
    (dss_cons (ds_set (i := 2) sc_is_prime.nd de_int)
    (dss_cons (ds_while (passes_of rfl) (dt_cmp dop_le (de_bin dop_mul (de_var 2) (de_var 2)) (de_var 0)) (dss_cons (ds_if (dt_cmp (dop_eq hr.units) (de_bin dop_mod (de_var 0) (de_var 2)) de_int) (dss_one (ds_ret de_bl)) dss_nil)
    (dss_one (ds_set (i := 2) sc_is_prime.nd (de_bin dop_add (de_var 2) de_int)))))
    (dss_one (ds_ret de_bl)))))⟩
theorem cis_prime_2 [Tabl] (T : Tx P K mg) (base : Heap) : CalleeV P w K mg base 2 (He.ga K "is_prime") ["value", "most"] (sp_is_prime K) [] [] := by
  obtain ⟨fd, F, G⟩ := ok_is_prime (P := P) (w := w) T base
  obtain ⟨ds, vd, b⟩ : ∃ ds, Vals [] ds ∧ Binds K fd ["value", "most"] ds := ⟨[], .nil, F.bindsN (fun _ _ _ _ _ _ us hl => match us, hl with | [_, _], _ => rfl)⟩
  exact ⟨fd, ds, G, F.kp, b, vd, True.intro⟩
theorem ok_ascends [Tabl] (T : Tx P K mg) (base : Heap) : ∃ fd, FunD K "ascends" "ascends" (defArgs s_ascends) (defBody s_ascends) (defScope s_ascends) [] [] (He.ga K "ascends") fd ∧ FnOk P w K mg base (L2.CX P w) 1 (He.ga K "ascends") fd ["letters"] (spOf (sp_ascends K)) := by
  obtain ⟨fd, F⟩ := T.d_ascends
  refine ⟨fd, F, fnD (k := 0) F sc_ascends (fun ds S K X h => len_ascends h) ?hb (u := u_ascends K) (fun ds S K X h hb hS => r_ascends h hb hS)⟩
  intro cdv A outer s H E hr tk
  exact ⟨_, (dss_one (ds_ret (de_callB (dcb_all rfl) T.n_all (da_cons (de_lc (own := [("one", 1), ("other", 2)]) rfl sc_ascends.nd (di_zip T.n_zip (da_cons (de_var 0) (da_cons (de_sl (de_var 0) (do_some de_int) do_none) da_nil))) (blkOk_by (N := N_ascends) (sc := defScope s_ascends) (by decide +kernel)) (fun _ _ _ _ _ => (dg_tupK K rfl rfl (dgs_cons (dg_name (i := 1) sc_ascends.nd) (dgs_cons (dg_name (i := 2) sc_ascends.nd) dgs_nil)))) (fun _ _ _ _ _ => dts_nil) (fun _ _ _ _ _ => (de_cmp dop_lt (de_var 1) (de_var 2))) (by decide)) da_nil))))⟩
theorem cascends_1 [Tabl] (T : Tx P K mg) (base : Heap) : CalleeV P w K mg base 1 (He.ga K "ascends") ["letters"] (sp_ascends K) [] [] := by
  obtain ⟨fd, F, G⟩ := ok_ascends (P := P) (w := w) T base
  obtain ⟨ds, vd, b⟩ : ∃ ds, Vals [] ds ∧ Binds K fd ["letters"] ds := ⟨[], .nil, F.bindsN (fun _ _ _ _ _ _ us hl => match us, hl with | [_], _ => rfl)⟩
  exact ⟨fd, ds, G, F.kp, b, vd, True.intro⟩
theorem ok_is_alphabet [Tabl] (T : Tx P K mg) (base : Heap) : ∃ fd, FunD K "is_alphabet" "is_alphabet" (defArgs s_is_alphabet) (defBody s_is_alphabet) (defScope s_is_alphabet) [] [] (He.ga K "is_alphabet") fd ∧ FnOk P w K mg base (L2.CX P w) 2 (He.ga K "is_alphabet") fd ["value"] (spOf (sp_is_alphabet K)) := by
  have c_ascends_1 := cascends_1 (P := P) (w := w) T base
  obtain ⟨fd, F⟩ := T.d_is_alphabet
  refine ⟨fd, F, fnD (k := 1) F sc_is_alphabet (fun ds S K X h => len_is_alphabet h) ?hb (u := u_is_alphabet K) (fun ds S K X h hb hS => r_is_alphabet h hb hS)⟩
  intro cdv A outer s H E hr tk
  exact ⟨_, (dss_cons (ds_if (DW.dt (dw_or (dt_not (dt_tru (de_callB dcb_isi T.n_isinstance (da_cons (de_var 0) (da_cons (de_ty T.n_str) da_nil))))) (dw_or1 (dt_not (dt_chain dop_le dop_le de_int (de_callB dcb_len T.n_len (da_cons (de_var 0) da_nil)) (de_gint T.i_MOST_LETTERS)))))) (dss_one (ds_ret de_bl)) dss_nil)
    (dss_one (ds_ret (de_and (de_callB (dcb_all rfl) T.n_all (da_cons (de_lc (own := [("sign", 1)]) rfl sc_is_alphabet.nd (di_seq (de_var 0)) (blkOk_by (N := N_is_alphabet) (sc := defScope s_is_alphabet) (by decide +kernel)) (fun _ _ _ _ _ => (dg_name (i := 1) sc_is_alphabet.nd)) (fun _ _ _ _ _ => dts_nil) (fun _ _ _ _ _ => (de_cmp (dop_inK K rfl) (de_var 1) (de_gstr T.s_SMALL))) (by decide)) da_nil)) (de_one (de_callF c_ascends_1 hr (by first | decide | omega) T.g_ascends tk (da_cons (de_var 0) da_nil)))))))⟩
theorem cis_alphabet_1 [Tabl] (T : Tx P K mg) (base : Heap) : CalleeV P w K mg base 2 (He.ga K "is_alphabet") ["value"] (sp_is_alphabet K) [] [] := by
  obtain ⟨fd, F, G⟩ := ok_is_alphabet (P := P) (w := w) T base
  obtain ⟨ds, vd, b⟩ : ∃ ds, Vals [] ds ∧ Binds K fd ["value"] ds := ⟨[], .nil, F.bindsN (fun _ _ _ _ _ _ us hl => match us, hl with | [_], _ => rfl)⟩
  exact ⟨fd, ds, G, F.kp, b, vd, True.intro⟩
theorem ok_is_word [Tabl] (T : Tx P K mg) (base : Heap) : ∃ fd, FunD K "is_word" "is_word" (defArgs s_is_word) (defBody s_is_word) (defScope s_is_word) [] [] (He.ga K "is_word") fd ∧ FnOk P w K mg base (L2.CX P w) 1 (He.ga K "is_word") fd ["alphabet", "value"] (spOf (sp_is_word K)) := by
  obtain ⟨fd, F⟩ := T.d_is_word
  refine ⟨fd, F, fnD (k := 0) F sc_is_word (fun ds S K X h => len_is_word h) ?hb (u := u_is_word K) (fun ds S K X h hb hS => r_is_word h hb hS)⟩
  intro cdv A outer s H E hr tk
  exact ⟨_, (dss_one (ds_ret (de_and (de_callB dcb_isi T.n_isinstance (da_cons (de_var 1) (da_cons (de_ty T.n_str) da_nil))) (de_one (de_callB (dcb_all rfl) T.n_all (da_cons (de_lc (own := [("sign", 2)]) rfl sc_is_word.nd (di_seq (de_var 1)) (blkOk_by (N := N_is_word) (sc := defScope s_is_word) (by decide +kernel)) (fun _ _ _ _ _ => (dg_name (i := 2) sc_is_word.nd)) (fun _ _ _ _ _ => dts_nil) (fun _ _ _ _ _ => (de_cmp (dop_inK K rfl) (de_var 2) (de_var 0))) (by decide)) da_nil))))))⟩
theorem cis_word_2 [Tabl] (T : Tx P K mg) (base : Heap) : CalleeV P w K mg base 1 (He.ga K "is_word") ["alphabet", "value"] (sp_is_word K) [] [] := by
  obtain ⟨fd, F, G⟩ := ok_is_word (P := P) (w := w) T base
  obtain ⟨ds, vd, b⟩ : ∃ ds, Vals [] ds ∧ Binds K fd ["alphabet", "value"] ds := ⟨[], .nil, F.bindsN (fun _ _ _ _ _ _ us hl => match us, hl with | [_, _], _ => rfl)⟩
  exact ⟨fd, ds, G, F.kp, b, vd, True.intro⟩
theorem ok_need_alphabet [Tabl] (T : Tx P K mg) (base : Heap) : ∃ fd, FunD K "need_alphabet" "need_alphabet" (defArgs s_need_alphabet) (defBody s_need_alphabet) (defScope s_need_alphabet) [] [] (He.ga K "need_alphabet") fd ∧ FnOk P w K mg base (L2.CX P w) 3 (He.ga K "need_alphabet") fd ["value"] (spOf (sp_need_alphabet K)) := by
  have c_is_alphabet_1 := cis_alphabet_1 (P := P) (w := w) T base
  have rv_InvalidAlphabet := tr_InvalidAlphabet (P := P) (w := w) T base
  obtain ⟨fd, F⟩ := T.d_need_alphabet
  refine ⟨fd, F, fnD (k := 2) F sc_need_alphabet (fun ds S K X h => len_need_alphabet h) ?hb (u := u_need_alphabet K) (fun ds S K X h hb hS => r_need_alphabet h hb hS)⟩
  intro cdv A outer s H E hr tk
  exact ⟨_, (dss_one (ds_if (dt_not (dt_tru (de_callF c_is_alphabet_1 hr (by first | decide | omega) T.g_is_alphabet tk (da_cons (de_var 0) da_nil)))) (dss_one (ds_raise rv_InvalidAlphabet hr (by first | decide | omega) T.g_InvalidAlphabet tk (da_cons (de_var 0) da_nil))) dss_nil))⟩
theorem cneed_alphabet_1 [Tabl] (T : Tx P K mg) (base : Heap) : CalleeV P w K mg base 3 (He.ga K "need_alphabet") ["value"] (sp_need_alphabet K) [] [] := by
  obtain ⟨fd, F, G⟩ := ok_need_alphabet (P := P) (w := w) T base
  obtain ⟨ds, vd, b⟩ : ∃ ds, Vals [] ds ∧ Binds K fd ["value"] ds := ⟨[], .nil, F.bindsN (fun _ _ _ _ _ _ us hl => match us, hl with | [_], _ => rfl)⟩
  exact ⟨fd, ds, G, F.kp, b, vd, True.intro⟩
theorem ok_need_word [Tabl] (T : Tx P K mg) (base : Heap) : ∃ fd, FunD K "need_word" "need_word" (defArgs s_need_word) (defBody s_need_word) (defScope s_need_word) [] [] (He.ga K "need_word") fd ∧ FnOk P w K mg base (L2.CX P w) 3 (He.ga K "need_word") fd ["alphabet", "value"] (spOf (sp_need_word K)) := by
  have c_is_word_2 := cis_word_2 (P := P) (w := w) T base
  have rv_InvalidWord := tr_InvalidWord (P := P) (w := w) T base
  obtain ⟨fd, F⟩ := T.d_need_word
  refine ⟨fd, F, fnD (k := 2) F sc_need_word (fun ds S K X h => len_need_word h) ?hb (u := u_need_word K) (fun ds S K X h hb hS => r_need_word h hb hS)⟩
  intro cdv A outer s H E hr tk
  exact ⟨_, (dss_one (ds_if (dt_not (dt_tru (de_callF c_is_word_2 hr (by first | decide | omega) T.g_is_word tk (da_cons (de_var 0) (da_cons (de_var 1) da_nil))))) (dss_one (ds_raise rv_InvalidWord hr (by first | decide | omega) T.g_InvalidWord tk (da_cons (de_var 1) da_nil))) dss_nil))⟩
theorem cneed_word_2 [Tabl] (T : Tx P K mg) (base : Heap) : CalleeV P w K mg base 3 (He.ga K "need_word") ["alphabet", "value"] (sp_need_word K) [] [] := by
  obtain ⟨fd, F, G⟩ := ok_need_word (P := P) (w := w) T base
  obtain ⟨ds, vd, b⟩ : ∃ ds, Vals [] ds ∧ Binds K fd ["alphabet", "value"] ds := ⟨[], .nil, F.bindsN (fun _ _ _ _ _ _ us hl => match us, hl with | [_, _], _ => rfl)⟩
  exact ⟨fd, ds, G, F.kp, b, vd, True.intro⟩
theorem ok_is_table [Tabl] (T : Tx P K mg) (base : Heap) : ∃ fd, FunD K "is_table" "is_table" (defArgs s_is_table) (defBody s_is_table) (defScope s_is_table) [] [] (He.ga K "is_table") fd ∧ FnOk P w K mg base (L2.CX P w) 2 (He.ga K "is_table") fd ["value", "size"] (spOf (sp_is_table K)) := by
  have c_is_number_3 := cis_number_3 (P := P) (w := w) T base
  obtain ⟨fd, F⟩ := T.d_is_table
  refine ⟨fd, F, fnD (k := 1) F sc_is_table (fun ds S K X h => len_is_table h) ?hb (u := u_is_table K) (fun ds S K X h hb hS => r_is_table h hb hS)⟩
  intro cdv A outer s H E hr tk
  exact ⟨_, (dss_one (ds_ret (de_and (de_callB dcb_isi T.n_isinstance (da_cons (de_var 0) (da_cons (de_ty T.n_tuple) da_nil))) (de_and (de_cmp (dop_eq hr.units) (de_callB dcb_len T.n_len (da_cons (de_var 0) da_nil)) (de_var 1)) (de_one (de_callB (dcb_all rfl) T.n_all (da_cons (de_lc (own := [("one", 2)]) rfl sc_is_table.nd (di_seq (de_var 0)) (blkOk_by (N := N_is_table) (sc := defScope s_is_table) (by decide +kernel)) (fun _ _ _ _ _ => (dg_name (i := 2) sc_is_table.nd)) (fun _ _ _ _ _ => dts_nil) (fun _ _ _ _ _ => (de_callF c_is_number_3 hr (by first | decide | omega) T.g_is_number takes_none5 (da_cons (de_var 2) (da_cons de_int (da_cons (de_gint T.i_MOST_VALUE) da_nil))))) (by decide)) da_nil)))))))⟩
theorem cis_table_2 [Tabl] (T : Tx P K mg) (base : Heap) : CalleeV P w K mg base 2 (He.ga K "is_table") ["value", "size"] (sp_is_table K) [] [] := by
  obtain ⟨fd, F, G⟩ := ok_is_table (P := P) (w := w) T base
  obtain ⟨ds, vd, b⟩ : ∃ ds, Vals [] ds ∧ Binds K fd ["value", "size"] ds := ⟨[], .nil, F.bindsN (fun _ _ _ _ _ _ us hl => match us, hl with | [_, _], _ => rfl)⟩
  exact ⟨fd, ds, G, F.kp, b, vd, True.intro⟩
theorem ok_size_of_table [Tabl] (T : Tx P K mg) (base : Heap) : ∃ fd, FunD K "size_of_table" "size_of_table" (defArgs s_size_of_table) (defBody s_size_of_table) (defScope s_size_of_table) [] [] (He.ga K "size_of_table") fd ∧ FnOk P w K mg base (L2.CX P w) 3 (He.ga K "size_of_table") fd ["value", "sizes"] (spOf (sp_size_of_table K)) := by
  have c_is_table_2 := cis_table_2 (P := P) (w := w) T base
  obtain ⟨fd, F⟩ := T.d_size_of_table
  refine ⟨fd, F, fnD (k := 2) F sc_size_of_table (fun ds S K X h => len_size_of_table h) ?hb (u := u_size_of_table K) (fun ds S K X h hb hS => r_size_of_table h hb hS)⟩
  intro cdv A outer s H E hr tk
  exact ⟨_, (dss_cons (ds_if (dt_cmp (dop_eq hr.units) (de_callB dcb_len T.n_len (da_cons (de_var 1) da_nil)) de_int) (dss_one (ds_ret (de_if (dt_tru (de_callF c_is_table_2 hr (by first | decide | omega) T.g_is_table tk (da_cons (de_var 0) (da_cons (de_ix (de_var 1) de_int) da_nil)))) (de_bin dop_add (de_callB (dcb_maxS rfl hr.units) T.n_max (da_cons (de_var 0) da_nil)) de_int) de_non))) dss_nil)
    (dss_cons (ds_if (DW.dt (dw_or (dt_not (dt_tru (de_callB dcb_isi T.n_isinstance (da_cons (de_var 0) (da_cons (de_ty T.n_tuple) da_nil))))) (dw_or1 (dt_cmp (dop_ne hr.units) (de_callB dcb_len T.n_len (da_cons (de_var 0) da_nil)) (de_ix (de_var 1) de_int))))) (dss_one (ds_ret de_non)) dss_nil)
    (dss_one (ds_ret (de_if (dt_tru (de_callB (dcb_all rfl) T.n_all (da_cons (de_lc (own := [("row", 2)]) rfl sc_size_of_table.nd (di_seq (de_var 0)) (blkOk_by (N := N_size_of_table) (sc := defScope s_size_of_table) (by decide +kernel)) (fun _ _ _ _ _ => (dg_name (i := 2) sc_size_of_table.nd)) (fun _ _ _ _ _ => dts_nil) (fun _ _ _ _ _ => (de_callF c_is_table_2 hr (by first | decide | omega) T.g_is_table takes_none5 (da_cons (de_var 2) (da_cons (de_ixK K rfl (de_var 1) de_int) da_nil)))) (by decide)) da_nil))) (de_bin dop_add (de_callB (dcb_maxS rfl hr.units) T.n_max (da_cons (de_lc (own := [("row", 2)]) rfl sc_size_of_table.nd (di_seq (de_var 0)) (blkOk_by (N := N_size_of_table) (sc := defScope s_size_of_table) (by decide +kernel)) (fun _ _ _ _ _ => (dg_name (i := 2) sc_size_of_table.nd)) (fun _ _ _ _ _ => dts_nil) (fun _ _ _ _ _ => (de_callB (dcb_maxSK K rfl rfl hr.units) T.n_max (da_cons (de_var 2) da_nil))) (by decide)) da_nil)) de_int) de_non)))))⟩
theorem csize_of_table_2 [Tabl] (T : Tx P K mg) (base : Heap) : CalleeV P w K mg base 3 (He.ga K "size_of_table") ["value", "sizes"] (sp_size_of_table K) [] [] := by
  obtain ⟨fd, F, G⟩ := ok_size_of_table (P := P) (w := w) T base
  obtain ⟨ds, vd, b⟩ : ∃ ds, Vals [] ds ∧ Binds K fd ["value", "sizes"] ds := ⟨[], .nil, F.bindsN (fun _ _ _ _ _ _ us hl => match us, hl with | [_, _], _ => rfl)⟩
  exact ⟨fd, ds, G, F.kp, b, vd, True.intro⟩
theorem ok_size_of_cell [Tabl] (T : Tx P K mg) (base : Heap) : ∃ fd, FunD K "size_of_cell" "size_of_cell" (defArgs s_size_of_cell) (defBody s_size_of_cell) (defScope s_size_of_cell) [] [] (He.ga K "size_of_cell") fd ∧ FnOk P w K mg base (L2.CX P w) 3 (He.ga K "size_of_cell") fd ["line", "sizes"] (spOf (sp_size_of_cell K)) := by
  have c_is_number_3 := cis_number_3 (P := P) (w := w) T base
  have c_is_prime_2 := cis_prime_2 (P := P) (w := w) T base
  obtain ⟨fd, F⟩ := T.d_size_of_cell
  refine ⟨fd, F, fnD (k := 2) F sc_size_of_cell (fun ds S K X h => len_size_of_cell h) ?hb (u := u_size_of_cell K) (fun ds S K X h hb hS => r_size_of_cell h hb hS)⟩
  intro cdv A outer s H E hr tk
  exact ⟨_, (dss_cons (ds_asg (de_sl (de_var 0) (do_some de_int) do_none) (dg_tup rfl (dgs_cons (dg_name (i := 2) sc_size_of_cell.nd) (dgs_cons (dg_name (i := 3) sc_size_of_cell.nd) (dgs_cons (dg_name (i := 4) sc_size_of_cell.nd) dgs_nil)))))
    (dss_cons (ds_if (dt_not (dt_tru (de_callF c_is_number_3 hr (by first | decide | omega) T.g_is_number tk (da_cons (de_var 4) (da_cons de_int (da_cons (de_bin dop_sub (de_callB dcb_len T.n_len (da_cons (de_var 1) da_nil)) de_int) da_nil)))))) (dss_one (ds_ret de_non)) dss_nil)
    (dss_cons (ds_set (i := 5) sc_size_of_cell.nd (de_callF c_is_prime_2 hr (by first | decide | omega) T.g_is_prime tk (da_cons (de_var 2) (da_cons (de_gint T.i_MOST_PRIME) da_nil))))
    (dss_cons (ds_if (dt_cmp (dop_eq hr.units) (de_ix (de_var 0) de_int) de_str) (dss_one (ds_set (i := 5) sc_size_of_cell.nd (de_and (de_callF c_is_number_3 hr (by first | decide | omega) T.g_is_number tk (da_cons (de_var 2) (da_cons de_int (da_cons (de_gint T.i_MOST_VALUE) da_nil)))) (de_one (de_cmp dop_le (de_ix (de_var 1) (de_var 4)) (de_bin dop_add (de_var 2) de_int)))))) dss_nil)
    (dss_one (ds_ret (de_if (DW.dt (dw_and (dt_tru (de_var 5)) (dw_and1 (dt_tru (de_callF c_is_number_3 hr (by first | decide | omega) T.g_is_number tk (da_cons (de_var 3) (da_cons de_int (da_cons (de_bin dop_sub (de_var 2) de_int) da_nil)))))))) (de_var 2) de_non)))))))⟩
theorem csize_of_cell_2 [Tabl] (T : Tx P K mg) (base : Heap) : CalleeV P w K mg base 3 (He.ga K "size_of_cell") ["line", "sizes"] (sp_size_of_cell K) [] [] := by
  obtain ⟨fd, F, G⟩ := ok_size_of_cell (P := P) (w := w) T base
  obtain ⟨ds, vd, b⟩ : ∃ ds, Vals [] ds ∧ Binds K fd ["line", "sizes"] ds := ⟨[], .nil, F.bindsN (fun _ _ _ _ _ _ us hl => match us, hl with | [_, _], _ => rfl)⟩
  exact ⟨fd, ds, G, F.kp, b, vd, True.intro⟩
theorem ok_size_of_line [Tabl] (T : Tx P K mg) (base : Heap) : ∃ fd, FunD K "size_of_line" "size_of_line" (defArgs s_size_of_line) (defBody s_size_of_line) (defScope s_size_of_line) [] [] (He.ga K "size_of_line") fd ∧ FnOk P w K mg base (L2.CX P w) 4 (He.ga K "size_of_line") fd ["line", "sizes", "letters"] (spOf (sp_size_of_line K)) := by
  have c_is_number_3 := cis_number_3 (P := P) (w := w) T base
  have c_size_of_cell_2 := csize_of_cell_2 (P := P) (w := w) T base
  have c_size_of_table_2 := csize_of_table_2 (P := P) (w := w) T base
  obtain ⟨fd, F⟩ := T.d_size_of_line
  refine ⟨fd, F, fnD (k := 3) F sc_size_of_line (fun ds S K X h => len_size_of_line h) ?hb (u := u_size_of_line K) (fun ds S K X h hb hS => r_size_of_line h hb hS)⟩
  intro cdv A outer s H E hr tk
  exact ⟨_, (dss_cons (ds_if (DW.dt (dw_or (dt_not (dt_tru (de_callB dcb_isi T.n_isinstance (da_cons (de_var 0) (da_cons (de_ty T.n_tuple) da_nil))))) (dw_or (dt_cmp (dop_eq hr.units) (de_callB dcb_len T.n_len (da_cons (de_var 0) da_nil)) de_int) (dw_or1 (dt_not (dt_tru (de_callB dcb_isi T.n_isinstance (da_cons (de_ix (de_var 0) de_int) (da_cons (de_ty T.n_str) da_nil))))))))) (dss_one (ds_ret de_non)) dss_nil)
    (dss_cons (ds_if (DW.dt (dw_and (dt_cmp (dop_eq hr.units) (de_ix (de_var 0) de_int) de_str) (dw_and1 (dt_cmp (dop_eq hr.units) (de_callB dcb_len T.n_len (da_cons (de_var 0) da_nil)) de_int)))) (dss_one (ds_ret (de_if (dt_tru (de_callF c_is_number_3 hr (by first | decide | omega) T.g_is_number tk (da_cons (de_ix (de_var 0) de_int) (da_cons de_int (da_cons (de_gint T.i_MOST_VALUE) da_nil))))) (de_bin dop_add (de_ix (de_var 0) de_int) de_int) de_non))) dss_nil)
    (dss_cons (ds_if (DW.dt (dw_and (dt_cmp (dop_eq hr.units) (de_ix (de_var 0) de_int) de_str) (dw_and1 (dt_cmp (dop_eq hr.units) (de_callB dcb_len T.n_len (da_cons (de_var 0) da_nil)) de_int)))) (dss_one (ds_ret (de_var 2))) dss_nil)
    (dss_cons (ds_if (DW.dt (dw_and (dt_cmp dop_in (de_ix (de_var 0) de_int) (de_tup (da_cons de_str (da_cons de_str da_nil)))) (dw_and1 (dt_cmp (dop_eq hr.units) (de_callB dcb_len T.n_len (da_cons (de_var 0) da_nil)) de_int)))) (dss_one (ds_ret (de_callF c_size_of_cell_2 hr (by first | decide | omega) T.g_size_of_cell tk (da_cons (de_var 0) (da_cons (de_var 1) da_nil))))) dss_nil)
    (dss_cons (ds_if (dt_cmp (dop_inP (room65 hr)) (de_tup (da_cons (de_ix (de_var 0) de_int) (da_cons (de_callB dcb_len T.n_len (da_cons (de_var 0) da_nil)) da_nil))) (de_tup (da_cons (de_tup (da_cons de_str (da_cons de_int da_nil))) (da_cons (de_tup (da_cons de_str (da_cons de_int da_nil))) da_nil)))) (dss_cons (ds_if (dt_not (dt_tru (de_callB (dcb_all rfl) T.n_all (da_cons (de_lc (own := [("ref", 3)]) rfl sc_size_of_line.nd (di_seq (de_sl (de_var 0) (do_some de_int) (do_some (de_neg de_int)))) (blkOk_by (N := N_size_of_line) (sc := defScope s_size_of_line) (by decide +kernel)) (fun _ _ _ _ _ => (dg_name (i := 3) sc_size_of_line.nd)) (fun _ _ _ _ _ => dts_nil) (fun _ _ _ _ _ => (de_callF c_is_number_3 hr (by first | decide | omega) T.g_is_number takes_none5 (da_cons (de_var 3) (da_cons de_int (da_cons (de_bin dop_sub (de_callB (dcb_lenK K rfl) T.n_len (da_cons (de_var 1) da_nil)) de_int) da_nil))))) (by decide)) da_nil)))) (dss_one (ds_ret de_non)) dss_nil)
    (dss_one (ds_ret (de_callF c_size_of_table_2 hr (by first | decide | omega) T.g_size_of_table tk (da_cons (de_ix (de_var 0) (de_neg de_int)) (da_cons (de_lc (own := [("ref", 3)]) rfl sc_size_of_line.nd (di_seq (de_sl (de_var 0) (do_some de_int) (do_some (de_neg de_int)))) (blkOk_by (N := N_size_of_line) (sc := defScope s_size_of_line) (by decide +kernel)) (fun _ _ _ _ _ => (dg_name (i := 3) sc_size_of_line.nd)) (fun _ _ _ _ _ => dts_nil) (fun _ _ _ _ _ => (de_ixK K rfl (de_var 1) (de_var 3))) (by decide)) da_nil)))))) dss_nil)
    (dss_one (ds_ret de_non)))))))⟩
theorem csize_of_line_3 [Tabl] (T : Tx P K mg) (base : Heap) : CalleeV P w K mg base 4 (He.ga K "size_of_line") ["line", "sizes", "letters"] (sp_size_of_line K) [] [] := by
  obtain ⟨fd, F, G⟩ := ok_size_of_line (P := P) (w := w) T base
  obtain ⟨ds, vd, b⟩ : ∃ ds, Vals [] ds ∧ Binds K fd ["line", "sizes", "letters"] ds := ⟨[], .nil, F.bindsN (fun _ _ _ _ _ _ us hl => match us, hl with | [_, _, _], _ => rfl)⟩
  exact ⟨fd, ds, G, F.kp, b, vd, True.intro⟩
theorem ok_refs_of [Tabl] (T : Tx P K mg) (base : Heap) : ∃ fd, FunD K "refs_of" "refs_of" (defArgs s_refs_of) (defBody s_refs_of) (defScope s_refs_of) [] [] (He.ga K "refs_of") fd ∧ FnOk P w K mg base (L2.CX P w) 1 (He.ga K "refs_of") fd ["line"] (spOf (sp_refs_of K)) := by
  obtain ⟨fd, F⟩ := T.d_refs_of
  refine ⟨fd, F, fnD (k := 0) F sc_refs_of (fun ds S K X h => len_refs_of h) ?hb (u := u_refs_of K) (fun ds S K X h hb hS => r_refs_of h hb hS)⟩
  intro cdv A outer s H E hr tk
  exact ⟨_, (dss_one (ds_ret (de_dget2 hr.units (de_disp (c := false) (dps_cons de_str (de_callT dcb_list T.n_list (da_cons (de_sl (de_var 0) (do_some de_int) (do_some de_int)) da_nil)) (dps_cons de_str (de_callT dcb_list T.n_list (da_cons (de_sl (de_var 0) (do_some de_int) (do_some de_int)) da_nil)) (dps_cons de_str (de_callT dcb_list T.n_list (da_cons (de_sl (de_var 0) (do_some de_int) (do_some de_int)) da_nil)) (dps_cons de_str (de_callT dcb_list T.n_list (da_cons (de_sl (de_var 0) (do_some de_int) (do_some de_int)) da_nil)) dps_nil))))) (de_ix (de_var 0) de_int) (de_lst da_nil))))⟩
theorem crefs_of_1 [Tabl] (T : Tx P K mg) (base : Heap) : CalleeV P w K mg base 1 (He.ga K "refs_of") ["line"] (sp_refs_of K) [] [] := by
  obtain ⟨fd, F, G⟩ := ok_refs_of (P := P) (w := w) T base
  obtain ⟨ds, vd, b⟩ : ∃ ds, Vals [] ds ∧ Binds K fd ["line"] ds := ⟨[], .nil, F.bindsN (fun _ _ _ _ _ _ us hl => match us, hl with | [_], _ => rfl)⟩
  exact ⟨fd, ds, G, F.kp, b, vd, True.intro⟩
theorem ok_is_cell [Tabl] (T : Tx P K mg) (base : Heap) : ∃ fd, FunD K "is_cell" "is_cell" (defArgs s_is_cell) (defBody s_is_cell) (defScope s_is_cell) [] [] (He.ga K "is_cell") fd ∧ FnOk P w K mg base (L2.CX P w) 1 (He.ga K "is_cell") fd ["line"] (spOf (sp_is_cell K)) := by
  obtain ⟨fd, F⟩ := T.d_is_cell
  refine ⟨fd, F, fnD (k := 0) F sc_is_cell (fun ds S K X h => len_is_cell h) ?hb (u := u_is_cell K) (fun ds S K X h hb hS => r_is_cell h hb hS)⟩
  intro cdv A outer s H E hr tk
  exact ⟨_, (dss_one (ds_ret (de_cmp dop_in (de_ix (de_var 0) de_int) (de_tup (da_cons de_str (da_cons de_str da_nil))))))⟩
theorem cis_cell_1 [Tabl] (T : Tx P K mg) (base : Heap) : CalleeV P w K mg base 1 (He.ga K "is_cell") ["line"] (sp_is_cell K) [] [] := by
  obtain ⟨fd, F, G⟩ := ok_is_cell (P := P) (w := w) T base
  obtain ⟨ds, vd, b⟩ : ∃ ds, Vals [] ds ∧ Binds K fd ["line"] ds := ⟨[], .nil, F.bindsN (fun _ _ _ _ _ _ us hl => match us, hl with | [_], _ => rfl)⟩
  exact ⟨fd, ds, G, F.kp, b, vd, True.intro⟩
theorem ok_changed [Tabl] (T : Tx P K mg) (base : Heap) : ∃ fd, FunD K "changed" "changed" (defArgs s_changed) (defBody s_changed) (defScope s_changed) [] [] (He.ga K "changed") fd ∧ FnOk P w K mg base (L2.CX P w) 1 (He.ga K "changed") fd ["line", "side", "value"] (spOf (sp_changed K)) := by
  obtain ⟨fd, F⟩ := T.d_changed
  refine ⟨fd, F, fnD (k := 0) F sc_changed (fun ds S K X h => len_changed h) ?hb (u := u_changed K) (fun ds S K X h hb hS => r_changed h hb hS)⟩
  intro cdv A outer s H E hr tk
  exact ⟨_, (dss_cons (ds_if (dt_cmp (dop_eq hr.units) (de_ix (de_var 0) de_int) de_str) (dss_one (ds_ret (de_bin dop_mod (de_bin dop_add (de_var 1) (de_var 2)) (de_ix (de_var 0) de_int)))) dss_nil)
    (dss_one (ds_ret (de_if (dt_cmp (dop_eq hr.units) (de_var 2) de_int) (de_var 1) (de_bin dop_sub (de_var 2) de_int)))))⟩
theorem cchanged_3 [Tabl] (T : Tx P K mg) (base : Heap) : CalleeV P w K mg base 1 (He.ga K "changed") ["line", "side", "value"] (sp_changed K) [] [] := by
  obtain ⟨fd, F, G⟩ := ok_changed (P := P) (w := w) T base
  obtain ⟨ds, vd, b⟩ : ∃ ds, Vals [] ds ∧ Binds K fd ["line", "side", "value"] ds := ⟨[], .nil, F.bindsN (fun _ _ _ _ _ _ us hl => match us, hl with | [_, _, _], _ => rfl)⟩
  exact ⟨fd, ds, G, F.kp, b, vd, True.intro⟩
theorem ok_Circuit_init [Tabl] (T : Tx P K mg) (base : Heap) : ∃ fd, FunD K "__init__" "Circuit.__init__" (defArgs s_Circuit_init) (defBody s_Circuit_init) (defScope s_Circuit_init) [] [] (He.ma K (He.ga K "Circuit") "__init__") fd ∧ FnOk P w K mg base (L2.CX P w) 5 (He.ma K (He.ga K "Circuit") "__init__") fd ["self", "alphabet", "lines"] (spOf (sp_Circuit_init K)) := by
  have c_need_alphabet_1 := cneed_alphabet_1 (P := P) (w := w) T base
  have c_size_of_line_3 := csize_of_line_3 (P := P) (w := w) T base
  have c_is_cell_1 := cis_cell_1 (P := P) (w := w) T base
  have c_refs_of_1 := crefs_of_1 (P := P) (w := w) T base
  have rv_InvalidLine := tr_InvalidLine (P := P) (w := w) T base
  have rv_TooMany := tr_TooMany (P := P) (w := w) T base
  obtain ⟨fd, F⟩ := T.d_Circuit_init
  refine ⟨fd, F, fnD (k := 4) F sc_Circuit_init (fun ds S K X h => len_Circuit_init h) ?hb (u := u_Circuit_init K) (fun ds S K X h hb hS => r_Circuit_init h hb hS)⟩
  intro cdv A outer s H E hr tk
  exact ⟨_, (dss_cons (ds_expr (de_callF c_need_alphabet_1 hr (by first | decide | omega) T.g_need_alphabet tk (da_cons (de_var 1) da_nil)))
    (dss_cons (ds_if (DW.dt (dw_or (dt_not (dt_tru (de_callB dcb_isi T.n_isinstance (da_cons (de_var 2) (da_cons (de_tup (da_cons (de_ty T.n_list) (da_cons (de_ty T.n_tuple) da_nil))) da_nil))))) (dw_or1 (dt_cmp (dop_eq hr.units) (de_callB dcb_len T.n_len (da_cons (de_var 2) da_nil)) de_int)))) (dss_one (ds_raise rv_InvalidLine hr (by first | decide | omega) T.g_InvalidLine tk (da_cons de_int da_nil))) dss_nil)
    (dss_cons (ds_if (dt_cmp dop_gt (de_callB dcb_len T.n_len (da_cons (de_var 2) da_nil)) (de_gint T.i_MOST_LINES)) (dss_one (ds_raise rv_TooMany hr (by first | decide | omega) T.g_TooMany tk (da_cons de_str (da_cons (de_gint T.i_MOST_LINES) da_nil)))) dss_nil)
    (dss_cons (ds_set (i := 3) sc_Circuit_init.nd (de_lstC da_nil))
    (dss_cons (ds_set (i := 4) sc_Circuit_init.nd (de_lstC da_nil))
    (dss_cons (ds_for (passes_of rfl) rfl (di_enumS T.n_enumerate (da_cons (de_var 2) da_nil)) (dg_tup rfl (dgs_cons (dg_name (i := 5) sc_Circuit_init.nd) (dgs_cons (dg_name (i := 6) sc_Circuit_init.nd) dgs_nil))) (dss_cons (ds_set (i := 7) sc_Circuit_init.nd (de_callF c_size_of_line_3 hr (by first | decide | omega) T.g_size_of_line tk (da_cons (de_var 6) (da_cons (de_var 3) (da_cons (de_callB dcb_len T.n_len (da_cons (de_var 1) da_nil)) da_nil)))))
    (dss_cons (ds_if (dt_cmp dop_is (de_var 7) de_non) (dss_one (ds_raise rv_InvalidLine hr (by first | decide | omega) T.g_InvalidLine tk (da_cons (de_var 5) da_nil))) dss_nil)
    (dss_cons (ds_expr (de_bm PySem.F.plainAttrs_list PySem.F.slot_list_append PySem.F.type_list_append dmt_append (de_var 3) (da_cons (de_var 7) da_nil)))
    (dss_one (ds_expr (de_bm PySem.F.plainAttrs_list PySem.F.slot_list_append PySem.F.type_list_append dmt_append (de_var 4) (da_cons (de_or (de_cmp (dop_eq hr.units) (de_ix (de_var 6) de_int) de_str) (de_one (de_and (de_not (de_callF c_is_cell_1 hr (by first | decide | omega) T.g_is_cell tk (da_cons (de_var 6) da_nil))) (de_one (de_callB (dcb_any rfl) T.n_any (da_cons (de_lc (own := [("ref", 8)]) rfl sc_Circuit_init.nd (di_seq (de_callF c_refs_of_1 hr (by first | decide | omega) T.g_refs_of tk (da_cons (de_var 6) da_nil))) (blkOk_by (N := N_Circuit_init) (sc := defScope s_Circuit_init) (by decide +kernel)) (fun _ _ _ _ _ => (dg_name (i := 8) sc_Circuit_init.nd)) (fun _ _ _ _ _ => dts_nil) (fun _ _ _ _ _ => (de_ixK K rfl (de_var 4) (de_var 8))) (by decide)) da_nil)))))) da_nil))))))))
    (dss_cons (ds_if (dt_tru (de_ix (de_var 4) (de_neg de_int))) (dss_one (ds_raise rv_InvalidLine hr (by first | decide | omega) T.g_InvalidLine tk (da_cons (de_bin dop_sub (de_callB dcb_len T.n_len (da_cons (de_var 2) da_nil)) de_int) da_nil))) dss_nil)
    (dss_cons (ds_fld (allc ⟨T.cl_Circuit, T.na_Circuit_own_alphabet⟩ alln) (de_var 0) (de_var 1))
    (dss_cons (ds_fld (allc ⟨T.cl_Circuit, T.na_Circuit_own_lines⟩ alln) (de_var 0) (de_callT dcb_list T.n_list (da_cons (de_var 2) da_nil)))
    (dss_cons (ds_fld (allc ⟨T.cl_Circuit, T.na_Circuit_own_sizes⟩ alln) (de_var 0) (de_var 3))
    (dss_cons (ds_fld (allc ⟨T.cl_Circuit, T.na_Circuit_looking⟩ alln) (de_var 0) (de_var 4))
    (dss_one (ds_fld (allc ⟨T.cl_Circuit, T.na_Circuit_own_cells⟩ alln) (de_var 0) (de_lc (own := [("at", 5), ("line", 6)]) rfl sc_Circuit_init.nd (di_enumS T.n_enumerate (da_cons (de_var 2) da_nil)) (blkOk_by (N := N_Circuit_init) (sc := defScope s_Circuit_init) (by decide +kernel)) (fun _ _ _ _ _ => (dg_tupK K rfl rfl (dgs_cons (dg_name (i := 5) sc_Circuit_init.nd) (dgs_cons (dg_name (i := 6) sc_Circuit_init.nd) dgs_nil)))) (fun _ _ _ _ _ => (dts_one (dt_truK K rfl (de_callF c_is_cell_1 hr (by first | decide | omega) T.g_is_cell takes_none5 (da_cons (de_var 6) da_nil))))) (fun _ _ _ _ _ => (de_var 5)) (by decide)))))))))))))))⟩
theorem tk_Circuit_3 [Tabl] (T : Tx P K mg) (base : Heap) : MakeV P w K mg base 5 ["self", "alphabet", "lines"] [] [] (He.ga K "Circuit") (sp_Circuit_init K) := by
  obtain ⟨fd, F, G⟩ := ok_Circuit_init (P := P) (w := w) T base
  obtain ⟨ds, vd, b⟩ : ∃ ds, Vals [] ds ∧ Binds K fd ["self", "alphabet", "lines"] ds := ⟨[], .nil, F.bindsN (fun _ _ _ _ _ _ us hl => match us, hl with | [_, _, _], _ => rfl)⟩
  exact ⟨_, fd, ds, T.mk_Circuit, G, b, vd, True.intro⟩
theorem ok_Circuit_sizes [Tabl] (T : Tx P K mg) (base : Heap) : ∃ fd, FunD K "sizes" "Circuit.sizes" (defArgs s_Circuit_sizes) (defBody s_Circuit_sizes) (defScope s_Circuit_sizes) [] [] (He.ma K (He.ga K "Circuit") "sizes") fd ∧ FnOk P w K mg base (L2.CX P w) 1 (He.ma K (He.ga K "Circuit") "sizes") fd ["self"] (spOf (sp_Circuit_sizes K)) := by
  obtain ⟨fd, F⟩ := T.d_Circuit_sizes
  refine ⟨fd, F, fnD (k := 0) F sc_Circuit_sizes (fun ds S K X h => len_Circuit_sizes h) ?hb (u := u_Circuit_sizes K) (fun ds S K X h hb hS => r_Circuit_sizes h hb hS)⟩
  intro cdv A outer s H E hr tk
  exact ⟨_, (dss_one (ds_ret (de_callT dcb_list T.n_list (da_cons (de_fld (allc ⟨T.cl_Circuit, T.na_Circuit_own_sizes⟩ alln) (de_var 0)) da_nil))))⟩
theorem tm_sizes_1 [Tabl] (T : Tx P K mg) (base : Heap) : ∀ q ∈ ([(He.ga K "Circuit", sp_Circuit_sizes K)] : List (Addr × Spec)), MethV P w K mg base 1 "sizes" ["self"] [] [] q.1 q.2 := by
  refine (allc ?_ allnS)
  · obtain ⟨fd, F, G⟩ := ok_Circuit_sizes (P := P) (w := w) T base
    obtain ⟨ds, vd, b⟩ : ∃ ds, Vals [] ds ∧ Binds K fd ["self"] ds := ⟨[], .nil, F.bindsN (fun _ _ _ _ _ _ us hl => match us, hl with | [_], _ => rfl)⟩
    exact ⟨_, fd, ds, T.cl_Circuit, T.me_Circuit_sizes, G.mono (by decide), b, vd, True.intro⟩
theorem ok_Circuit_first_sides [Tabl] (T : Tx P K mg) (base : Heap) : ∃ fd, FunD K "first_sides" "Circuit.first_sides" (defArgs s_Circuit_first_sides) (defBody s_Circuit_first_sides) (defScope s_Circuit_first_sides) [] [] (He.ma K (He.ga K "Circuit") "first_sides") fd ∧ FnOk P w K mg base (L2.CX P w) 1 (He.ma K (He.ga K "Circuit") "first_sides") fd ["self"] (spOf (sp_Circuit_first_sides K)) := by
  obtain ⟨fd, F⟩ := T.d_Circuit_first_sides
  refine ⟨fd, F, fnD (k := 0) F sc_Circuit_first_sides (fun ds S K X h => len_Circuit_first_sides h) ?hb (u := u_Circuit_first_sides K) (fun ds S K X h hb hS => r_Circuit_first_sides h hb hS)⟩
  intro cdv A outer s H E hr tk
  exact ⟨_, (dss_one (ds_ret (de_callT dcb_tuple T.n_tuple (da_cons (de_lc (own := [("at", 1)]) rfl sc_Circuit_first_sides.nd (di_seq (de_fld (allc ⟨T.cl_Circuit, T.na_Circuit_own_cells⟩ alln) (de_var 0))) (blkOk_by (N := N_Circuit_first_sides) (sc := defScope s_Circuit_first_sides) (by decide +kernel)) (fun _ _ _ _ _ => (dg_name (i := 1) sc_Circuit_first_sides.nd)) (fun _ _ _ _ _ => dts_nil) (fun _ _ _ _ _ => (de_ixK K rfl (de_ixK K rfl (de_fldK K rfl (allc ⟨T.cl_Circuit, T.na_Circuit_own_lines⟩ alln) (de_var 0)) (de_var 1)) de_int)) (by decide)) da_nil))))⟩
theorem tm_first_sides_1 [Tabl] (T : Tx P K mg) (base : Heap) : ∀ q ∈ ([(He.ga K "Circuit", sp_Circuit_first_sides K)] : List (Addr × Spec)), MethV P w K mg base 1 "first_sides" ["self"] [] [] q.1 q.2 := by
  refine (allc ?_ allnS)
  · obtain ⟨fd, F, G⟩ := ok_Circuit_first_sides (P := P) (w := w) T base
    obtain ⟨ds, vd, b⟩ : ∃ ds, Vals [] ds ∧ Binds K fd ["self"] ds := ⟨[], .nil, F.bindsN (fun _ _ _ _ _ _ us hl => match us, hl with | [_], _ => rfl)⟩
    exact ⟨_, fd, ds, T.cl_Circuit, T.me_Circuit_first_sides, G.mono (by decide), b, vd, True.intro⟩
theorem ok_Circuit_value_of [Tabl] (T : Tx P K mg) (base : Heap) : ∃ fd, FunD K "value_of" "Circuit.value_of" (defArgs s_Circuit_value_of) (defBody s_Circuit_value_of) (defScope s_Circuit_value_of) [] [] (He.ma K (He.ga K "Circuit") "value_of") fd ∧ FnOk P w K mg base (L2.CX P w) 1 (He.ma K (He.ga K "Circuit") "value_of") fd ["self", "line", "values", "letter"] (spOf (sp_Circuit_value_of K)) := by
  obtain ⟨fd, F⟩ := T.d_Circuit_value_of
  refine ⟨fd, F, fnD (k := 0) F sc_Circuit_value_of (fun ds S K X h => len_Circuit_value_of h) ?hb (u := u_Circuit_value_of K) (fun ds S K X h hb hS => r_Circuit_value_of h hb hS)⟩
  intro cdv A outer s H E hr tk
  exact ⟨_, (dss_cons (ds_if (dt_cmp (dop_eq hr.units) (de_ix (de_var 1) de_int) de_str) (dss_one (ds_ret (de_ix (de_var 1) de_int))) dss_nil)
    (dss_cons (ds_if (dt_cmp (dop_eq hr.units) (de_ix (de_var 1) de_int) de_str) (dss_one (ds_ret (de_var 3))) dss_nil)
    (dss_cons (ds_set (i := 4) sc_Circuit_value_of.nd (de_ix (de_var 1) (de_neg de_int)))
    (dss_cons (ds_for (passes_of rfl) rfl (di_seq (de_sl (de_var 1) (do_some de_int) (do_some (de_neg de_int)))) (dg_name (i := 5) sc_Circuit_value_of.nd) (dss_one (ds_set (i := 4) sc_Circuit_value_of.nd (de_ix (de_var 4) (de_ix (de_var 2) (de_var 5))))))
    (dss_one (ds_ret (de_var 4)))))))⟩
theorem tm_value_of_4 [Tabl] (T : Tx P K mg) (base : Heap) : ∀ q ∈ ([(He.ga K "Circuit", sp_Circuit_value_of K)] : List (Addr × Spec)), MethV P w K mg base 1 "value_of" ["self", "line", "values", "letter"] [] [] q.1 q.2 := by
  refine (allc ?_ allnS)
  · obtain ⟨fd, F, G⟩ := ok_Circuit_value_of (P := P) (w := w) T base
    obtain ⟨ds, vd, b⟩ : ∃ ds, Vals [] ds ∧ Binds K fd ["self", "line", "values", "letter"] ds := ⟨[], .nil, F.bindsN (fun _ _ _ _ _ _ us hl => match us, hl with | [_, _, _, _], _ => rfl)⟩
    exact ⟨_, fd, ds, T.cl_Circuit, T.me_Circuit_value_of, G.mono (by decide), b, vd, True.intro⟩
theorem ok_Circuit_line_values [Tabl] (T : Tx P K mg) (base : Heap) : ∃ fd, FunD K "line_values" "Circuit.line_values" (defArgs s_Circuit_line_values) (defBody s_Circuit_line_values) (defScope s_Circuit_line_values) [] [] (He.ma K (He.ga K "Circuit") "line_values") fd ∧ FnOk P w K mg base (L2.CX P w) 2 (He.ma K (He.ga K "Circuit") "line_values") fd ["self", "sides", "letter"] (spOf (sp_Circuit_line_values K)) := by
  have c_is_cell_1 := cis_cell_1 (P := P) (w := w) T base
  have mm_value_of_4 := tm_value_of_4 (P := P) (w := w) T base
  obtain ⟨fd, F⟩ := T.d_Circuit_line_values
  refine ⟨fd, F, fnD (k := 1) F sc_Circuit_line_values (fun ds S K X h => len_Circuit_line_values h) ?hb (u := u_Circuit_line_values K) (fun ds S K X h hb hS => r_Circuit_line_values h hb hS)⟩
  intro cdv A outer s H E hr tk
  exact ⟨_, (dss_cons (ds_set (i := 3) sc_Circuit_line_values.nd (de_lstC da_nil))
    (dss_cons (ds_set (i := 4) sc_Circuit_line_values.nd de_int)
    (dss_cons (ds_for (passes_of rfl) rfl (di_seq (de_fld (allc ⟨T.cl_Circuit, T.na_Circuit_own_lines⟩ alln) (de_var 0))) (dg_name (i := 5) sc_Circuit_line_values.nd) (dss_one (ds_if (dt_tru (de_callF c_is_cell_1 hr (by first | decide | omega) T.g_is_cell tk (da_cons (de_var 5) da_nil))) (dss_cons (ds_expr (de_bm PySem.F.plainAttrs_list PySem.F.slot_list_append PySem.F.type_list_append dmt_append (de_var 3) (da_cons (de_ix (de_var 1) (de_var 4)) da_nil)))
    (dss_one (ds_set (i := 4) sc_Circuit_line_values.nd (de_bin dop_add (de_var 4) de_int)))) (dss_one (ds_expr (de_bm PySem.F.plainAttrs_list PySem.F.slot_list_append PySem.F.type_list_append dmt_append (de_var 3) (da_cons (de_meth mm_value_of_4 hr (by first | decide | omega) tk (de_var 0) (da_cons (de_var 5) (da_cons (de_var 3) (da_cons (de_var 2) da_nil)))) da_nil)))))))
    (dss_one (ds_ret (de_var 3))))))⟩
theorem tm_line_values_3 [Tabl] (T : Tx P K mg) (base : Heap) : ∀ q ∈ ([(He.ga K "Circuit", sp_Circuit_line_values K)] : List (Addr × Spec)), MethV P w K mg base 2 "line_values" ["self", "sides", "letter"] [] [] q.1 q.2 := by
  refine (allc ?_ allnS)
  · obtain ⟨fd, F, G⟩ := ok_Circuit_line_values (P := P) (w := w) T base
    obtain ⟨ds, vd, b⟩ : ∃ ds, Vals [] ds ∧ Binds K fd ["self", "sides", "letter"] ds := ⟨[], .nil, F.bindsN (fun _ _ _ _ _ _ us hl => match us, hl with | [_, _, _], _ => rfl)⟩
    exact ⟨_, fd, ds, T.cl_Circuit, T.me_Circuit_line_values, G.mono (by decide), b, vd, True.intro⟩
theorem ok_Circuit_stepped [Tabl] (T : Tx P K mg) (base : Heap) : ∃ fd, FunD K "stepped" "Circuit.stepped" (defArgs s_Circuit_stepped) (defBody s_Circuit_stepped) (defScope s_Circuit_stepped) [] [] (He.ma K (He.ga K "Circuit") "stepped") fd ∧ FnOk P w K mg base (L2.CX P w) 3 (He.ma K (He.ga K "Circuit") "stepped") fd ["self", "sides", "letter"] (spOf (sp_Circuit_stepped K)) := by
  have c_changed_3 := cchanged_3 (P := P) (w := w) T base
  have mm_line_values_3 := tm_line_values_3 (P := P) (w := w) T base
  obtain ⟨fd, F⟩ := T.d_Circuit_stepped
  refine ⟨fd, F, fnD (k := 2) F sc_Circuit_stepped (fun ds S K X h => len_Circuit_stepped h) ?hb (u := u_Circuit_stepped K) (fun ds S K X h hb hS => r_Circuit_stepped h hb hS)⟩
  intro cdv A outer s H E hr tk
  exact ⟨_, (dss_cons (ds_set (i := 3) sc_Circuit_stepped.nd (de_meth mm_line_values_3 hr (by first | decide | omega) tk (de_var 0) (da_cons (de_var 1) (da_cons (de_var 2) da_nil))))
    (dss_one (ds_ret (de_callT dcb_tuple T.n_tuple (da_cons (de_lc (own := [("at", 4), ("side", 5)]) rfl sc_Circuit_stepped.nd (di_zip T.n_zip (da_cons (de_fld (allc ⟨T.cl_Circuit, T.na_Circuit_own_cells⟩ alln) (de_var 0)) (da_cons (de_var 1) da_nil))) (blkOk_by (N := N_Circuit_stepped) (sc := defScope s_Circuit_stepped) (by decide +kernel)) (fun _ _ _ _ _ => (dg_tupK K rfl rfl (dgs_cons (dg_name (i := 4) sc_Circuit_stepped.nd) (dgs_cons (dg_name (i := 5) sc_Circuit_stepped.nd) dgs_nil)))) (fun _ _ _ _ _ => dts_nil) (fun _ _ _ _ _ => (de_callF c_changed_3 hr (by first | decide | omega) T.g_changed takes_none5 (da_cons (de_ixK K rfl (de_fldK K rfl (allc ⟨T.cl_Circuit, T.na_Circuit_own_lines⟩ alln) (de_var 0)) (de_var 4)) (da_cons (de_var 5) (da_cons (de_ixK K rfl (de_var 3) (de_ixK K rfl (de_ixK K rfl (de_fldK K rfl (allc ⟨T.cl_Circuit, T.na_Circuit_own_lines⟩ alln) (de_var 0)) (de_var 4)) de_int)) da_nil))))) (by decide)) da_nil)))))⟩
theorem tm_stepped_3 [Tabl] (T : Tx P K mg) (base : Heap) : ∀ q ∈ ([(He.ga K "Circuit", sp_Circuit_stepped K)] : List (Addr × Spec)), MethV P w K mg base 3 "stepped" ["self", "sides", "letter"] [] [] q.1 q.2 := by
  refine (allc ?_ allnS)
  · obtain ⟨fd, F, G⟩ := ok_Circuit_stepped (P := P) (w := w) T base
    obtain ⟨ds, vd, b⟩ : ∃ ds, Vals [] ds ∧ Binds K fd ["self", "sides", "letter"] ds := ⟨[], .nil, F.bindsN (fun _ _ _ _ _ _ us hl => match us, hl with | [_, _, _], _ => rfl)⟩
    exact ⟨_, fd, ds, T.cl_Circuit, T.me_Circuit_stepped, G.mono (by decide), b, vd, True.intro⟩
theorem ok_Circuit_value_with [Tabl] (T : Tx P K mg) (base : Heap) : ∃ fd, FunD K "value_with" "Circuit.value_with" (defArgs s_Circuit_value_with) (defBody s_Circuit_value_with) (defScope s_Circuit_value_with) [] [] (He.ma K (He.ga K "Circuit") "value_with") fd ∧ FnOk P w K mg base (L2.CX P w) 3 (He.ma K (He.ga K "Circuit") "value_with") fd ["self", "sides"] (spOf (sp_Circuit_value_with K)) := by
  have mm_line_values_3 := tm_line_values_3 (P := P) (w := w) T base
  obtain ⟨fd, F⟩ := T.d_Circuit_value_with
  refine ⟨fd, F, fnD (k := 2) F sc_Circuit_value_with (fun ds S K X h => len_Circuit_value_with h) ?hb (u := u_Circuit_value_with K) (fun ds S K X h hb hS => r_Circuit_value_with h hb hS)⟩
  intro cdv A outer s H E hr tk
  exact ⟨_, (dss_one (ds_ret (de_ix (de_meth mm_line_values_3 hr (by first | decide | omega) tk (de_var 0) (da_cons (de_var 1) (da_cons de_int da_nil))) (de_neg de_int))))⟩
theorem tm_value_with_2 [Tabl] (T : Tx P K mg) (base : Heap) : ∀ q ∈ ([(He.ga K "Circuit", sp_Circuit_value_with K)] : List (Addr × Spec)), MethV P w K mg base 3 "value_with" ["self", "sides"] [] [] q.1 q.2 := by
  refine (allc ?_ allnS)
  · obtain ⟨fd, F, G⟩ := ok_Circuit_value_with (P := P) (w := w) T base
    obtain ⟨ds, vd, b⟩ : ∃ ds, Vals [] ds ∧ Binds K fd ["self", "sides"] ds := ⟨[], .nil, F.bindsN (fun _ _ _ _ _ _ us hl => match us, hl with | [_, _], _ => rfl)⟩
    exact ⟨_, fd, ds, T.cl_Circuit, T.me_Circuit_value_with, G.mono (by decide), b, vd, True.intro⟩
theorem ok_Circuit_sides_after [Tabl] (T : Tx P K mg) (base : Heap) : ∃ fd, FunD K "sides_after" "Circuit.sides_after" (defArgs s_Circuit_sides_after) (defBody s_Circuit_sides_after) (defScope s_Circuit_sides_after) [] [] (He.ma K (He.ga K "Circuit") "sides_after") fd ∧ FnOk P w K mg base (L2.CX P w) 4 (He.ma K (He.ga K "Circuit") "sides_after") fd ["self", "word"] (spOf (sp_Circuit_sides_after K)) := by
  have c_need_word_2 := cneed_word_2 (P := P) (w := w) T base
  have mm_first_sides_1 := tm_first_sides_1 (P := P) (w := w) T base
  have mm_stepped_3 := tm_stepped_3 (P := P) (w := w) T base
  obtain ⟨fd, F⟩ := T.d_Circuit_sides_after
  refine ⟨fd, F, fnD (k := 3) F sc_Circuit_sides_after (fun ds S K X h => len_Circuit_sides_after h) ?hb (u := u_Circuit_sides_after K) (fun ds S K X h hb hS => r_Circuit_sides_after h hb hS)⟩
  intro cdv A outer s H E hr tk
  exact ⟨_, (dss_cons (ds_expr (de_callF c_need_word_2 hr (by first | decide | omega) T.g_need_word tk (da_cons (de_fld (allc ⟨T.cl_Circuit, T.na_Circuit_own_alphabet⟩ alln) (de_var 0)) (da_cons (de_var 1) da_nil))))
    (dss_cons (ds_set (i := 2) sc_Circuit_sides_after.nd (de_meth0 mm_first_sides_1 hr (by first | decide | omega) tk (de_var 0)))
    (dss_cons (ds_for (passes_of rfl) rfl (di_seq (de_var 1)) (dg_name (i := 3) sc_Circuit_sides_after.nd) (dss_one (ds_set (i := 2) sc_Circuit_sides_after.nd (de_meth mm_stepped_3 hr (by first | decide | omega) tk (de_var 0) (da_cons (de_var 2) (da_cons (de_bm PySem.F.plainAttrs_str PySem.F.slot_str_index PySem.F.type_str_index dmt_sindex (de_fld (allc ⟨T.cl_Circuit, T.na_Circuit_own_alphabet⟩ alln) (de_var 0)) (da_cons (de_var 3) da_nil)) da_nil))))))
    (dss_one (ds_ret (de_callT dcb_listC T.n_list (da_cons (de_var 2) da_nil)))))))⟩
theorem tm_sides_after_2 [Tabl] (T : Tx P K mg) (base : Heap) : ∀ q ∈ ([(He.ga K "Circuit", sp_Circuit_sides_after K)] : List (Addr × Spec)), MethV P w K mg base 4 "sides_after" ["self", "word"] [] [] q.1 q.2 := by
  refine (allc ?_ allnS)
  · obtain ⟨fd, F, G⟩ := ok_Circuit_sides_after (P := P) (w := w) T base
    obtain ⟨ds, vd, b⟩ : ∃ ds, Vals [] ds ∧ Binds K fd ["self", "word"] ds := ⟨[], .nil, F.bindsN (fun _ _ _ _ _ _ us hl => match us, hl with | [_, _], _ => rfl)⟩
    exact ⟨_, fd, ds, T.cl_Circuit, T.me_Circuit_sides_after, G.mono (by decide), b, vd, True.intro⟩
theorem ok_Circuit_after [Tabl] (T : Tx P K mg) (base : Heap) : ∃ fd, FunD K "after" "Circuit.after" (defArgs s_Circuit_after) (defBody s_Circuit_after) (defScope s_Circuit_after) [] [] (He.ma K (He.ga K "Circuit") "after") fd ∧ FnOk P w K mg base (L2.CX P w) 5 (He.ma K (He.ga K "Circuit") "after") fd ["self", "word"] (spOf (sp_Circuit_after K)) := by
  have mm_sides_after_2 := tm_sides_after_2 (P := P) (w := w) T base
  have mm_value_with_2 := tm_value_with_2 (P := P) (w := w) T base
  obtain ⟨fd, F⟩ := T.d_Circuit_after
  refine ⟨fd, F, fnD (k := 4) F sc_Circuit_after (fun ds S K X h => len_Circuit_after h) ?hb (u := u_Circuit_after K) (fun ds S K X h hb hS => r_Circuit_after h hb hS)⟩
  intro cdv A outer s H E hr tk
  exact ⟨_, (dss_one (ds_ret (de_meth mm_value_with_2 hr (by first | decide | omega) tk (de_var 0) (da_cons (de_meth mm_sides_after_2 hr (by first | decide | omega) tk (de_var 0) (da_cons (de_var 1) da_nil)) da_nil))))⟩
theorem tm_after_2 [Tabl] (T : Tx P K mg) (base : Heap) : ∀ q ∈ ([(He.ga K "Circuit", sp_Circuit_after K)] : List (Addr × Spec)), MethV P w K mg base 5 "after" ["self", "word"] [] [] q.1 q.2 := by
  refine (allc ?_ allnS)
  · obtain ⟨fd, F, G⟩ := ok_Circuit_after (P := P) (w := w) T base
    obtain ⟨ds, vd, b⟩ : ∃ ds, Vals [] ds ∧ Binds K fd ["self", "word"] ds := ⟨[], .nil, F.bindsN (fun _ _ _ _ _ _ us hl => match us, hl with | [_, _], _ => rfl)⟩
    exact ⟨_, fd, ds, T.cl_Circuit, T.me_Circuit_after, G.mono (by decide), b, vd, True.intro⟩
theorem ok_law_bag [Tabl] (T : Tx P K mg) (base : Heap) : ∃ fd, FunD K "_law_bag" "_law_bag" (defArgs s_law_bag) (defBody s_law_bag) (defScope s_law_bag) [] [] (He.ga K "_law_bag") fd ∧ FnOk P w K mg base (L2.CX P w) 1 (He.ga K "_law_bag") fd ["_law_script"] (spOf (sp_law_bag K)) := by
  obtain ⟨fd, F⟩ := T.d_law_bag
  refine ⟨fd, F, fnD (k := 0) F sc_law_bag (fun ds S K X h => len_law_bag h) ?hb (u := u_law_bag K) (fun ds S K X h hb hS => r_law_bag h hb hS)⟩
  intro cdv A outer s H E hr tk
  exact ⟨_, (dss_cons (ds_set (i := 1) sc_law_bag.nd de_int)
    (dss_cons (ds_for (passes_of rfl) rfl (di_seq (de_slQ (de_var 0) do_none (do_some de_int))) (dg_name (i := 2) sc_law_bag.nd) (dss_one (ds_set (i := 1) sc_law_bag.nd (de_bin dop_mod (de_callT dcb_int T.n_int (da_cons (de_bin dop_add (de_bin dop_add (de_bin dop_mul (de_var 1) de_int) (de_bin dop_mul (de_bin dop_mod (de_callT dcb_int T.n_int (da_cons (de_var 2) da_nil)) de_int) de_int)) de_int) da_nil)) de_int))))
    (dss_one (ds_ret (de_lstC (da_cons (de_callT dcb_list T.n_list (da_cons (de_slQ (de_var 0) do_none (do_some de_int)) da_nil)) (da_cons de_int (da_cons de_int (da_cons (de_var 1) (da_cons de_int da_nil))))))))))⟩
theorem claw_bag_1 [Tabl] (T : Tx P K mg) (base : Heap) : CalleeV P w K mg base 1 (He.ga K "_law_bag") ["_law_script"] (sp_law_bag K) [] [] := by
  obtain ⟨fd, F, G⟩ := ok_law_bag (P := P) (w := w) T base
  obtain ⟨ds, vd, b⟩ : ∃ ds, Vals [] ds ∧ Binds K fd ["_law_script"] ds := ⟨[], .nil, F.bindsN (fun _ _ _ _ _ _ us hl => match us, hl with | [_], _ => rfl)⟩
  exact ⟨fd, ds, G, F.kp, b, vd, True.intro⟩
theorem ok_law_pull [Tabl] (T : Tx P K mg) (base : Heap) : ∃ fd, FunD K "_law_pull" "_law_pull" (defArgs s_law_pull) (defBody s_law_pull) (defScope s_law_pull) [] [] (He.ga K "_law_pull") fd ∧ FnOk P w K mg base (L2.CX P w) 1 (He.ga K "_law_pull") fd ["_law_bag_here", "_law_sides"] (spOf (sp_law_pull K)) := by
  obtain ⟨fd, F⟩ := T.d_law_pull
  refine ⟨fd, F, fnD (k := 0) F sc_law_pull (fun ds S K X h => len_law_pull h) ?hb (u := u_law_pull K) (fun ds S K X h hb hS => r_law_pull h hb hS)⟩
  intro cdv A outer s H E hr tk
  exact ⟨_, (dss_cons (ds_asg (de_bin dop_add (de_ix (de_var 0) de_int) de_int) (dg_sub (de_var 0) de_int set_list set_imp))
    (dss_cons (ds_if (DW.dt (dw_and (dt_cmp (dop_eq hr.units) (de_ix (de_var 0) de_int) de_int) (dw_and1 (dt_cmp dop_lt (de_ix (de_var 0) de_int) (de_callB dcb_len T.n_len (da_cons (de_ix (de_var 0) de_int) da_nil)))))) (dss_cons (ds_set (i := 2) sc_law_pull.nd (de_ix (de_ix (de_var 0) de_int) (de_ix (de_var 0) de_int)))
    (dss_cons (ds_asg (de_bin dop_add (de_ix (de_var 0) de_int) de_int) (dg_sub (de_var 0) de_int set_list set_imp))
    (dss_one (ds_if (dt_cmp dop_ge (de_callB dcb_abs T.n_abs (da_cons (de_var 2) da_nil)) (de_bin dop_pow de_int de_int)) (dss_one (ds_asg (de_callB dcb_abs T.n_abs (da_cons (de_var 2) da_nil)) (dg_sub (de_var 0) de_int set_list set_imp))) (dss_one (ds_asg (de_bin dop_mod (de_callT dcb_int T.n_int (da_cons (de_bin dop_add (de_bin dop_add (de_bin dop_mul (de_ix (de_var 0) de_int) de_int) (de_bin dop_mul (de_bin dop_mod (de_callT dcb_int T.n_int (da_cons (de_var 2) da_nil)) de_int) de_int)) de_int) da_nil)) de_int) (dg_sub (de_var 0) de_int set_list set_imp))))))) dss_nil)
    (dss_cons (ds_if (dt_cmp dop_gt (de_ix (de_var 0) de_int) de_int) (dss_cons (ds_set (i := 3) sc_law_pull.nd (de_bin dop_mod (de_callT dcb_int T.n_int (da_cons (de_ix (de_var 0) de_int) da_nil)) (de_var 1)))
    (dss_cons (ds_asg (de_bin dop_fdiv (de_ix (de_var 0) de_int) (de_var 1)) (dg_sub (de_var 0) de_int set_list set_imp))
    (dss_one (ds_ret (de_var 3))))) dss_nil)
    (dss_cons (ds_set (i := 4) sc_law_pull.nd (de_bin dop_mod (de_callT dcb_int T.n_int (da_cons (de_bin dop_add (de_bin dop_mul (de_ix (de_var 0) de_int) (de_ix (de_var 0) de_int)) (de_bin dop_mul (de_ix (de_var 0) de_int) de_int)) da_nil)) de_int))
    (dss_cons (ds_asg (de_bin dop_mod (de_callT dcb_int T.n_int (da_cons (de_bin dop_add (de_bin dop_add (de_bin dop_mul (de_var 4) de_int) (de_bin dop_mul (de_ix (de_var 0) de_int) de_int)) de_int) da_nil)) de_int) (dg_sub (de_var 0) de_int set_list set_imp))
    (dss_one (ds_ret (de_bin dop_mod (de_callT dcb_int T.n_int (da_cons (de_bin dop_fdiv (de_ix (de_var 0) de_int) de_int) da_nil)) (de_var 1)))))))))⟩
theorem claw_pull_2 [Tabl] (T : Tx P K mg) (base : Heap) : CalleeV P w K mg base 1 (He.ga K "_law_pull") ["_law_bag_here", "_law_sides"] (sp_law_pull K) [] [] := by
  obtain ⟨fd, F, G⟩ := ok_law_pull (P := P) (w := w) T base
  obtain ⟨ds, vd, b⟩ : ∃ ds, Vals [] ds ∧ Binds K fd ["_law_bag_here", "_law_sides"] ds := ⟨[], .nil, F.bindsN (fun _ _ _ _ _ _ us hl => match us, hl with | [_, _], _ => rfl)⟩
  exact ⟨fd, ds, G, F.kp, b, vd, True.intro⟩
theorem ok_law_of [Tabl] (T : Tx P K mg) (base : Heap) : ∃ fd, FunD K "_law_of" "_law_of" (defArgs s_law_of) (defBody s_law_of) (defScope s_law_of) [] [] (He.ga K "_law_of") fd ∧ FnOk P w K mg base (L2.CX P w) 2 (He.ga K "_law_of") fd ["_law_bag_here", "_law_some"] (spOf (sp_law_of K)) := by
  have c_law_pull_2 := claw_pull_2 (P := P) (w := w) T base
  obtain ⟨fd, F⟩ := T.d_law_of
  refine ⟨fd, F, fnD (k := 1) F sc_law_of (fun ds S K X h => len_law_of h) ?hb (u := u_law_of K) (fun ds S K X h hb hS => r_law_of h hb hS)⟩
  intro cdv A outer s H E hr tk
  exact ⟨_, (dss_one (ds_ret (de_ix (de_var 1) (de_callF c_law_pull_2 hr (by first | decide | omega) T.g_law_pull tk (da_cons (de_var 0) (da_cons (de_callB dcb_len T.n_len (da_cons (de_var 1) da_nil)) da_nil))))))⟩
theorem claw_of_2 [Tabl] (T : Tx P K mg) (base : Heap) : CalleeV P w K mg base 2 (He.ga K "_law_of") ["_law_bag_here", "_law_some"] (sp_law_of K) [] [] := by
  obtain ⟨fd, F, G⟩ := ok_law_of (P := P) (w := w) T base
  obtain ⟨ds, vd, b⟩ : ∃ ds, Vals [] ds ∧ Binds K fd ["_law_bag_here", "_law_some"] ds := ⟨[], .nil, F.bindsN (fun _ _ _ _ _ _ us hl => match us, hl with | [_, _], _ => rfl)⟩
  exact ⟨fd, ds, G, F.kp, b, vd, True.intro⟩
theorem ok_law_same [Tabl] (T : Tx P K mg) (base : Heap) : ∀ n : Nat, ∃ fd, FunD K "_law_same" "_law_same" (defArgs s_law_same) (defBody s_law_same) (defScope s_law_same) [] [] (He.ga K "_law_same") fd ∧ FnOk P w K mg base (L2.CX P w) (n + 1) (He.ga K "_law_same") fd ["_law_found", "_law_due"] (spOf (sp_law_same K n))
  | 0 => by
    obtain ⟨fd, F⟩ := T.d_law_same
    exact ⟨fd, F, fn_none F sc_law_same⟩
  | n + 1 => by
    have c_law_same_2 : CalleeV P w K mg base (n + 1) (He.ga K "_law_same") ["_law_found", "_law_due"] (sp_law_same K n) [] [] := by
      obtain ⟨fd, F, G⟩ := ok_law_same T base n
      exact ⟨fd, [], G, F.kp, F.bindsN (fun _ _ _ _ _ _ us hl => match us, hl with | [_, _], _ => rfl), .nil, True.intro⟩
    obtain ⟨fd, F⟩ := T.d_law_same
    refine ⟨fd, F, fnD (k := n + 1) F sc_law_same (fun ds S K X h => len_law_same h) ?hb (u := u_law_same K (sp_law_same K n)) (fun ds S K X h hb hS => r_law_same h hb hS)⟩
    intro cdv A outer s H E hr tk
    exact ⟨_, (dss_cons (ds_if (dt_tru (de_callB dcb_isi T.n_isinstance (da_cons (de_var 1) (da_cons (de_tup (da_cons (de_ty T.n_list) (da_cons (de_ty T.n_tuple) da_nil))) da_nil)))) (dss_cons (ds_if (DW.dt (dw_or (dt_cmp (dop_ne hr.units) (de_callB dcb_isi T.n_isinstance (da_cons (de_var 0) (da_cons (de_ty T.n_list) da_nil))) (de_callB dcb_isi T.n_isinstance (da_cons (de_var 1) (da_cons (de_ty T.n_list) da_nil)))) (dw_or1 (dt_cmp (dop_ne hr.units) (de_callB dcb_isi T.n_isinstance (da_cons (de_var 0) (da_cons (de_ty T.n_tuple) da_nil))) (de_callB dcb_isi T.n_isinstance (da_cons (de_var 1) (da_cons (de_ty T.n_tuple) da_nil))))))) (dss_one (ds_ret de_bl)) dss_nil)
    (dss_one (ds_ret (de_and (de_cmp (dop_eq hr.units) (de_callB dcb_len T.n_len (da_cons (de_var 0) da_nil)) (de_callB dcb_len T.n_len (da_cons (de_var 1) da_nil))) (de_one (de_callB (dcb_all rfl) T.n_all (da_cons (de_lc (own := [("_law_a", 2), ("_law_b", 3)]) rfl sc_law_same.nd (di_zip T.n_zip (da_cons (de_var 0) (da_cons (de_var 1) da_nil))) (blkOk_by (N := N_law_same) (sc := defScope s_law_same) (by decide +kernel)) (fun _ _ _ _ _ => (dg_tupK K rfl rfl (dgs_cons (dg_name (i := 2) sc_law_same.nd) (dgs_cons (dg_name (i := 3) sc_law_same.nd) dgs_nil)))) (fun _ _ _ _ _ => dts_nil) (fun _ _ _ _ _ => (de_callF c_law_same_2 hr (by first | decide | omega) T.g_law_same takes_none5 (da_cons (de_var 2) (da_cons (de_var 3) da_nil)))) (by decide)) da_nil))))))) dss_nil)
    (dss_cons (ds_if (DW.dt (dw_or (dt_cmp dop_is (de_var 1) de_non) (dw_or1 (dt_cmp dop_is (de_var 0) de_non)))) (dss_one (ds_ret (de_and (de_cmp dop_is (de_var 1) de_non) (de_one (de_cmp dop_is (de_var 0) de_non))))) dss_nil)
    (dss_cons (ds_if (DW.dt (dw_or (dt_cmp (dop_ne hr.units) (de_callB dcb_isi T.n_isinstance (da_cons (de_var 1) (da_cons (de_ty T.n_bool) da_nil))) (de_callB dcb_isi T.n_isinstance (da_cons (de_var 0) (da_cons (de_ty T.n_bool) da_nil)))) (dw_or1 (dt_cmp (dop_ne hr.units) (de_callB dcb_isi T.n_isinstance (da_cons (de_var 1) (da_cons (de_ty T.n_int) da_nil))) (de_callB dcb_isi T.n_isinstance (da_cons (de_var 0) (da_cons (de_ty T.n_int) da_nil))))))) (dss_one (ds_ret de_bl)) dss_nil)
    (dss_one (ds_ret (de_and (de_cmp (dop_eq hr.units) (de_callB dcb_isi T.n_isinstance (da_cons (de_var 1) (da_cons (de_ty T.n_str) da_nil))) (de_callB dcb_isi T.n_isinstance (da_cons (de_var 0) (da_cons (de_ty T.n_str) da_nil)))) (de_one (de_cmp (dop_eq hr.units) (de_var 0) (de_var 1)))))))))⟩
theorem claw_same_2 [Tabl] (T : Tx P K mg) (base : Heap) : CalleeV P w K mg base 7 (He.ga K "_law_same") ["_law_found", "_law_due"] (sp_law_same K 6) [] [] := by
  obtain ⟨fd, F, G⟩ := ok_law_same T base 6
  exact ⟨fd, [], G, F.kp, F.bindsN (fun _ _ _ _ _ _ us hl => match us, hl with | [_, _], _ => rfl), .nil, True.intro⟩
theorem ok_law_text [Tabl] (T : Tx P K mg) (base : Heap) : ∃ fd, FunD K "_law_text" "_law_text" (defArgs s_law_text) (defBody s_law_text) (defScope s_law_text) [] [] (He.ga K "_law_text") fd ∧ FnOk P w K mg base (L2.CX P w) 3 (He.ga K "_law_text") fd ["_law_bag_here", "_law_signs", "_law_size"] (spOf (sp_law_text K)) := by
  have c_law_of_2 := claw_of_2 (P := P) (w := w) T base
  obtain ⟨fd, F⟩ := T.d_law_text
  refine ⟨fd, F, fnD (k := 2) F sc_law_text (fun ds S K X h => len_law_text h) ?hb (u := u_law_text K) (fun ds S K X h hb hS => r_law_text h hb hS)⟩
  intro cdv A outer s H E hr tk
  exact ⟨_, (dss_one (ds_ret (de_bm PySem.F.plainAttrs_str PySem.F.slot_str_join PySem.F.type_str_join dmt_join de_str (da_cons (de_lc (own := [("_law_k", 3)]) rfl sc_law_text.nd (di_range1 T.n_range (da_cons (de_var 2) da_nil)) (blkOk_by (N := N_law_text) (sc := defScope s_law_text) (by decide +kernel)) (fun _ _ _ _ _ => (dg_name (i := 3) sc_law_text.nd)) (fun _ _ _ _ _ => dts_nil) (fun _ _ _ _ _ => (de_callF c_law_of_2 hr (by first | decide | omega) T.g_law_of takes_none5 (da_cons (de_var 0) (da_cons (de_var 1) da_nil)))) (by decide)) da_nil))))⟩
theorem claw_text_3 [Tabl] (T : Tx P K mg) (base : Heap) : CalleeV P w K mg base 3 (He.ga K "_law_text") ["_law_bag_here", "_law_signs", "_law_size"] (sp_law_text K) [] [] := by
  obtain ⟨fd, F, G⟩ := ok_law_text (P := P) (w := w) T base
  obtain ⟨ds, vd, b⟩ : ∃ ds, Vals [] ds ∧ Binds K fd ["_law_bag_here", "_law_signs", "_law_size"] ds := ⟨[], .nil, F.bindsN (fun _ _ _ _ _ _ us hl => match us, hl with | [_, _, _], _ => rfl)⟩
  exact ⟨fd, ds, G, F.kp, b, vd, True.intro⟩
theorem ok_law_values [Tabl] (T : Tx P K mg) (base : Heap) : ∃ fd, FunD K "_law_values" "_law_values" (defArgs s_law_values) (defBody s_law_values) (defScope s_law_values) [] [] (He.ga K "_law_values") fd ∧ FnOk P w K mg base (L2.CX P w) 1 (He.ga K "_law_values") fd ["_law_lines", "_law_sides", "_law_letter"] (spOf (sp_law_values K)) := by
  obtain ⟨fd, F⟩ := T.d_law_values
  refine ⟨fd, F, fnD (k := 0) F sc_law_values (fun ds S K X h => len_law_values h) ?hb (u := u_law_values K) (fun ds S K X h hb hS => r_law_values h hb hS)⟩
  intro cdv A outer s H E hr tk
  exact ⟨_, (dss_cons (ds_set (i := 3) sc_law_values.nd (de_lstC da_nil))
    (dss_cons (ds_for (passes_of rfl) rfl (di_range1 T.n_range (da_cons (de_callB dcb_len T.n_len (da_cons (de_var 0) da_nil)) da_nil)) (dg_name (i := 4) sc_law_values.nd) (dss_cons (ds_set (i := 5) sc_law_values.nd (de_ix (de_var 0) (de_var 4)))
    (dss_one (ds_if (dt_cmp (dop_eq hr.units) (de_ix (de_var 5) de_int) de_str) (dss_one (ds_expr (de_bm PySem.F.plainAttrs_list PySem.F.slot_list_append PySem.F.type_list_append dmt_append (de_var 3) (da_cons (de_ix (de_var 5) de_int) da_nil)))) (dss_one (ds_if (dt_cmp (dop_eq hr.units) (de_ix (de_var 5) de_int) de_str) (dss_one (ds_expr (de_bm PySem.F.plainAttrs_list PySem.F.slot_list_append PySem.F.type_list_append dmt_append (de_var 3) (da_cons (de_var 2) da_nil)))) (dss_one (ds_if (dt_cmp (dop_eq hr.units) (de_ix (de_var 5) de_int) de_str) (dss_one (ds_expr (de_bm PySem.F.plainAttrs_list PySem.F.slot_list_append PySem.F.type_list_append dmt_append (de_var 3) (da_cons (de_ix (de_ix (de_var 5) de_int) (de_ix (de_var 3) (de_ix (de_var 5) de_int))) da_nil)))) (dss_one (ds_if (dt_cmp (dop_eq hr.units) (de_ix (de_var 5) de_int) de_str) (dss_one (ds_expr (de_bm PySem.F.plainAttrs_list PySem.F.slot_list_append PySem.F.type_list_append dmt_append (de_var 3) (da_cons (de_ix (de_ix (de_ix (de_var 5) de_int) (de_ix (de_var 3) (de_ix (de_var 5) de_int))) (de_ix (de_var 3) (de_ix (de_var 5) de_int))) da_nil)))) (dss_one (ds_expr (de_bm PySem.F.plainAttrs_list PySem.F.slot_list_append PySem.F.type_list_append dmt_append (de_var 3) (da_cons (de_ix (de_var 1) (de_var 4)) da_nil))))))))))))))
    (dss_one (ds_ret (de_var 3)))))⟩
theorem claw_values_3 [Tabl] (T : Tx P K mg) (base : Heap) : CalleeV P w K mg base 1 (He.ga K "_law_values") ["_law_lines", "_law_sides", "_law_letter"] (sp_law_values K) [] [] := by
  obtain ⟨fd, F, G⟩ := ok_law_values (P := P) (w := w) T base
  obtain ⟨ds, vd, b⟩ : ∃ ds, Vals [] ds ∧ Binds K fd ["_law_lines", "_law_sides", "_law_letter"] ds := ⟨[], .nil, F.bindsN (fun _ _ _ _ _ _ us hl => match us, hl with | [_, _, _], _ => rfl)⟩
  exact ⟨fd, ds, G, F.kp, b, vd, True.intro⟩
theorem ok_law_begin [Tabl] (T : Tx P K mg) (base : Heap) : ∃ fd, FunD K "_law_begin" "_law_begin" (defArgs s_law_begin) (defBody s_law_begin) (defScope s_law_begin) [] [] (He.ga K "_law_begin") fd ∧ FnOk P w K mg base (L2.CX P w) 1 (He.ga K "_law_begin") fd ["_law_lines"] (spOf (sp_law_begin K)) := by
  obtain ⟨fd, F⟩ := T.d_law_begin
  refine ⟨fd, F, fnD (k := 0) F sc_law_begin (fun ds S K X h => len_law_begin h) ?hb (u := u_law_begin K) (fun ds S K X h hb hS => r_law_begin h hb hS)⟩
  intro cdv A outer s H E hr tk
  exact ⟨_, (dss_one (ds_ret (de_callT dcb_tuple T.n_tuple (da_cons (de_lc (own := [("_law_line", 1)]) rfl sc_law_begin.nd (di_seq (de_var 0)) (blkOk_by (N := N_law_begin) (sc := defScope s_law_begin) (by decide +kernel)) (fun _ _ _ _ _ => (dg_name (i := 1) sc_law_begin.nd)) (fun _ _ _ _ _ => dts_nil) (fun _ _ _ _ _ => (de_if (dt_cmp (dop_inK K rfl) (de_ixK K rfl (de_var 1) de_int) (de_tup (da_cons de_str (da_cons de_str da_nil)))) (de_ixK K rfl (de_var 1) de_int) de_int)) (by decide)) da_nil))))⟩
theorem claw_begin_1 [Tabl] (T : Tx P K mg) (base : Heap) : CalleeV P w K mg base 1 (He.ga K "_law_begin") ["_law_lines"] (sp_law_begin K) [] [] := by
  obtain ⟨fd, F, G⟩ := ok_law_begin (P := P) (w := w) T base
  obtain ⟨ds, vd, b⟩ : ∃ ds, Vals [] ds ∧ Binds K fd ["_law_lines"] ds := ⟨[], .nil, F.bindsN (fun _ _ _ _ _ _ us hl => match us, hl with | [_], _ => rfl)⟩
  exact ⟨fd, ds, G, F.kp, b, vd, True.intro⟩
theorem ok_law_step [Tabl] (T : Tx P K mg) (base : Heap) : ∃ fd, FunD K "_law_step" "_law_step" (defArgs s_law_step) (defBody s_law_step) (defScope s_law_step) [] [] (He.ga K "_law_step") fd ∧ FnOk P w K mg base (L2.CX P w) 2 (He.ga K "_law_step") fd ["_law_lines", "_law_sides", "_law_letter"] (spOf (sp_law_step K)) := by
  have c_law_values_3 := claw_values_3 (P := P) (w := w) T base
  obtain ⟨fd, F⟩ := T.d_law_step
  refine ⟨fd, F, fnD (k := 1) F sc_law_step (fun ds S K X h => len_law_step h) ?hb (u := u_law_step K) (fun ds S K X h hb hS => r_law_step h hb hS)⟩
  intro cdv A outer s H E hr tk
  exact ⟨_, (dss_cons (ds_par (i := 3) (j := 4) rfl sc_law_step.nd (da_cons (de_callF c_law_values_3 hr (by first | decide | omega) T.g_law_values tk (da_cons (de_var 0) (da_cons (de_var 1) (da_cons (de_var 2) da_nil)))) (da_cons (de_callT dcb_listC T.n_list (da_cons (de_var 1) da_nil)) da_nil)))
    (dss_cons (ds_for (passes_of rfl) rfl (di_range1 T.n_range (da_cons (de_callB dcb_len T.n_len (da_cons (de_var 0) da_nil)) da_nil)) (dg_name (i := 5) sc_law_step.nd) (dss_cons (ds_set (i := 6) sc_law_step.nd (de_ix (de_var 0) (de_var 5)))
    (dss_cons (ds_if (DW.dt (dw_and (dt_cmp (dop_eq hr.units) (de_ix (de_var 6) de_int) de_str) (dw_and1 (dt_cmp dop_gt (de_ix (de_var 3) (de_ix (de_var 6) de_int)) de_int)))) (dss_one (ds_asg (de_bin dop_sub (de_ix (de_var 3) (de_ix (de_var 6) de_int)) de_int) (dg_sub (de_var 4) (de_var 5) set_list set_imp))) dss_nil)
    (dss_one (ds_if (dt_cmp (dop_eq hr.units) (de_ix (de_var 6) de_int) de_str) (dss_one (ds_asg (de_bin dop_mod (de_callT dcb_int T.n_int (da_cons (de_bin dop_add (de_ix (de_var 1) (de_var 5)) (de_ix (de_var 3) (de_ix (de_var 6) de_int))) da_nil)) (de_ix (de_var 6) de_int)) (dg_sub (de_var 4) (de_var 5) set_list set_imp))) dss_nil)))))
    (dss_one (ds_ret (de_callT dcb_tuple T.n_tuple (da_cons (de_var 4) da_nil))))))⟩
theorem claw_step_3 [Tabl] (T : Tx P K mg) (base : Heap) : CalleeV P w K mg base 2 (He.ga K "_law_step") ["_law_lines", "_law_sides", "_law_letter"] (sp_law_step K) [] [] := by
  obtain ⟨fd, F, G⟩ := ok_law_step (P := P) (w := w) T base
  obtain ⟨ds, vd, b⟩ : ∃ ds, Vals [] ds ∧ Binds K fd ["_law_lines", "_law_sides", "_law_letter"] ds := ⟨[], .nil, F.bindsN (fun _ _ _ _ _ _ us hl => match us, hl with | [_, _, _], _ => rfl)⟩
  exact ⟨fd, ds, G, F.kp, b, vd, True.intro⟩
theorem ok_law_run [Tabl] (T : Tx P K mg) (base : Heap) : ∃ fd, FunD K "_law_run" "_law_run" (defArgs s_law_run) (defBody s_law_run) (defScope s_law_run) [] [] (He.ga K "_law_run") fd ∧ FnOk P w K mg base (L2.CX P w) 3 (He.ga K "_law_run") fd ["_law_lines", "_law_signs", "_law_text_here"] (spOf (sp_law_run K)) := by
  have c_law_begin_1 := claw_begin_1 (P := P) (w := w) T base
  have c_law_step_3 := claw_step_3 (P := P) (w := w) T base
  obtain ⟨fd, F⟩ := T.d_law_run
  refine ⟨fd, F, fnD (k := 2) F sc_law_run (fun ds S K X h => len_law_run h) ?hb (u := u_law_run K) (fun ds S K X h hb hS => r_law_run h hb hS)⟩
  intro cdv A outer s H E hr tk
  exact ⟨_, (dss_cons (ds_set (i := 3) sc_law_run.nd (de_callF c_law_begin_1 hr (by first | decide | omega) T.g_law_begin tk (da_cons (de_var 0) da_nil)))
    (dss_cons (ds_for (passes_of rfl) rfl (di_seq (de_var 2)) (dg_name (i := 4) sc_law_run.nd) (dss_one (ds_set (i := 3) sc_law_run.nd (de_callF c_law_step_3 hr (by first | decide | omega) T.g_law_step tk (da_cons (de_var 0) (da_cons (de_var 3) (da_cons (de_bm PySem.F.plainAttrs_str PySem.F.slot_str_index PySem.F.type_str_index dmt_sindex (de_var 1) (da_cons (de_var 4) da_nil)) da_nil)))))))
    (dss_one (ds_ret (de_var 3)))))⟩
theorem claw_run_3 [Tabl] (T : Tx P K mg) (base : Heap) : CalleeV P w K mg base 3 (He.ga K "_law_run") ["_law_lines", "_law_signs", "_law_text_here"] (sp_law_run K) [] [] := by
  obtain ⟨fd, F, G⟩ := ok_law_run (P := P) (w := w) T base
  obtain ⟨ds, vd, b⟩ : ∃ ds, Vals [] ds ∧ Binds K fd ["_law_lines", "_law_signs", "_law_text_here"] ds := ⟨[], .nil, F.bindsN (fun _ _ _ _ _ _ us hl => match us, hl with | [_, _, _], _ => rfl)⟩
  exact ⟨fd, ds, G, F.kp, b, vd, True.intro⟩
theorem ok_law_greatest_so [Tabl] (T : Tx P K mg) (base : Heap) : ∃ fd, FunD K "_law_greatest_so" "_law_greatest_so" (defArgs s_law_greatest_so) (defBody s_law_greatest_so) (defScope s_law_greatest_so) [] [] (He.ga K "_law_greatest_so") fd ∧ FnOk P w K mg base (L2.CX P w) 8 (He.ga K "_law_greatest_so") fd [] (spOf (sp_law_greatest_so K)) := by
  have c_law_same_2 := claw_same_2 (P := P) (w := w) T base
  have mm_after_2 := tm_after_2 (P := P) (w := w) T base
  have mm_sides_after_2 := tm_sides_after_2 (P := P) (w := w) T base
  have mm_sizes_1 := tm_sizes_1 (P := P) (w := w) T base
  have mk_Circuit_3 := tk_Circuit_3 (P := P) (w := w) T base
  obtain ⟨fd, F⟩ := T.d_law_greatest_so
  refine ⟨fd, F, fnD (k := 7) F sc_law_greatest_so (fun ds S K X h => len_law_greatest_so h) ?hb (u := u_law_greatest_so K) (fun ds S K X h hb hS => r_law_greatest_so h hb hS)⟩
  intro cdv A outer s H E hr tk
  exact ⟨_, (dss_cons (ds_for (passes_of rfl) rfl (di_seq (de_lst (da_cons (de_tup (da_cons de_str (da_cons de_int (da_cons (de_tup (da_cons de_int (da_cons de_int da_nil))) da_nil)))) (da_cons (de_tup (da_cons de_str (da_cons de_int (da_cons de_int (da_cons (de_tup (da_cons (de_tup (da_cons de_int (da_cons de_int da_nil))) (da_cons (de_tup (da_cons de_int (da_cons de_int da_nil))) da_nil))) da_nil))))) da_nil)))) (dg_name (i := 0) sc_law_greatest_so.nd) (dss_cons (ds_set (i := 1) sc_law_greatest_so.nd (de_make mk_Circuit_3 hr (by first | decide | omega) T.g_Circuit tk (da_cons de_str (da_cons (de_lst (da_cons (de_tup (da_cons de_str da_nil)) (da_cons (de_var 0) (da_cons (de_tup (da_cons de_str (da_cons de_int (da_cons de_int (da_cons de_int da_nil))))) (da_cons (de_tup (da_cons de_str (da_cons de_int da_nil))) da_nil))))) da_nil))))
    (dss_cons (ds_set (i := 2) sc_law_greatest_so.nd (de_lst (da_cons (de_meth mm_after_2 hr (by first | decide | omega) tk (de_var 1) (da_cons de_str da_nil)) (da_cons (de_meth mm_sides_after_2 hr (by first | decide | omega) tk (de_var 1) (da_cons de_str da_nil)) (da_cons (de_meth mm_sides_after_2 hr (by first | decide | omega) tk (de_var 1) (da_cons de_str da_nil)) (da_cons (de_meth0 mm_sizes_1 hr (by first | decide | omega) tk (de_var 1)) da_nil))))))
    (dss_one (ds_if (dt_not (dt_tru (de_callF c_law_same_2 hr (by first | decide | omega) T.g_law_same tk (da_cons (de_var 2) (da_cons (de_lst (da_cons de_int (da_cons (de_lst (da_cons de_int da_nil)) (da_cons (de_lst (da_cons de_int da_nil)) (da_cons (de_lst (da_cons de_int (da_cons de_int (da_cons de_int (da_cons de_int da_nil))))) da_nil))))) da_nil))))) (dss_one (ds_ret de_bl)) dss_nil)))))
    (dss_one (ds_ret de_bl)))⟩
theorem claw_greatest_so_0 [Tabl] (T : Tx P K mg) (base : Heap) : CalleeV P w K mg base 8 (He.ga K "_law_greatest_so") [] (sp_law_greatest_so K) [] [] := by
  obtain ⟨fd, F, G⟩ := ok_law_greatest_so (P := P) (w := w) T base
  obtain ⟨ds, vd, b⟩ : ∃ ds, Vals [] ds ∧ Binds K fd [] ds := ⟨[], .nil, F.bindsN (fun _ _ _ _ _ _ us hl => match us, hl with | [], _ => rfl)⟩
  exact ⟨fd, ds, G, F.kp, b, vd, True.intro⟩
theorem ok_law [Tabl] (T : Tx P K mg) (base : Heap) : ∃ fd, FunD K "law" "law" (defArgs s_law) (defBody s_law) (defScope s_law) [] [] (He.ga K "law") fd ∧ FnOk P w K mg base (L2.CX P w) 9 (He.ga K "law") fd ["_law_script"] (spOf (sp_law K)) := by
  have c_law_bag_1 := claw_bag_1 (P := P) (w := w) T base
  have c_law_pull_2 := claw_pull_2 (P := P) (w := w) T base
  have c_law_text_3 := claw_text_3 (P := P) (w := w) T base
  have c_law_same_2 := claw_same_2 (P := P) (w := w) T base
  have c_law_run_3 := claw_run_3 (P := P) (w := w) T base
  have c_law_greatest_so_0 := claw_greatest_so_0 (P := P) (w := w) T base
  have mm_after_2 := tm_after_2 (P := P) (w := w) T base
  have mm_sides_after_2 := tm_sides_after_2 (P := P) (w := w) T base
  have mk_Circuit_3 := tk_Circuit_3 (P := P) (w := w) T base
  obtain ⟨fd, F⟩ := T.d_law
  refine ⟨fd, F, fnD (k := 8) F sc_law (fun ds S K X h => len_law h) ?hb (u := u_law K) (fun ds S K X h hb hS => r_law h hb hS)⟩
  intro cdv A outer s H E hr tk
  exact ⟨_, (dss_cons (ds_set (i := 1) sc_law.nd (de_callF c_law_bag_1 hr (by first | decide | omega) T.g_law_bag tk (da_cons (de_var 0) da_nil)))
    (dss_cons (ds_asg (de_tup (da_cons (de_callF c_law_pull_2 hr (by first | decide | omega) T.g_law_pull tk (da_cons (de_var 1) (da_cons de_int da_nil))) (da_cons (de_callF c_law_pull_2 hr (by first | decide | omega) T.g_law_pull tk (da_cons (de_var 1) (da_cons de_int da_nil))) (da_cons (de_callF c_law_pull_2 hr (by first | decide | omega) T.g_law_pull tk (da_cons (de_var 1) (da_cons de_int da_nil))) da_nil)))) (dg_tup rfl (dgs_cons (dg_name (i := 2) sc_law.nd) (dgs_cons (dg_name (i := 3) sc_law.nd) (dgs_cons (dg_name (i := 4) sc_law.nd) dgs_nil)))))
    (dss_cons (ds_set (i := 5) sc_law.nd (de_callT dcb_tuple T.n_tuple (da_cons (de_lc (own := [("_law_k", 16)]) rfl sc_law.nd (di_range1 T.n_range (da_cons de_int da_nil)) (blkOk_by (N := N_law) (sc := defScope s_law) (by decide +kernel)) (fun _ _ _ _ _ => (dg_name (i := 16) sc_law.nd)) (fun _ _ _ _ _ => dts_nil) (fun _ _ _ _ _ => (de_bin dop_mod (de_callT dcb_int T.n_int (da_cons (de_bin (dop_addK K rfl) (de_var 16) (de_var 2)) da_nil)) de_int)) (by decide)) da_nil)))
    (dss_cons (ds_set (i := 6) sc_law.nd (de_lst (da_cons (de_tup (da_cons de_str (da_cons (de_var 2) da_nil))) (da_cons (de_tup (da_cons de_str (da_cons de_int (da_cons de_int (da_cons de_int da_nil))))) (da_cons (de_tup (da_cons de_str (da_cons de_int da_nil))) (da_cons (de_tup (da_cons de_str (da_cons de_int (da_cons (de_var 3) (da_cons de_int da_nil))))) (da_cons (de_tup (da_cons de_str (da_cons de_int (da_cons (de_var 5) da_nil)))) da_nil)))))))
    (dss_cons (ds_set (i := 7) sc_law.nd (de_make mk_Circuit_3 hr (by first | decide | omega) T.g_Circuit tk (da_cons de_str (da_cons (de_var 6) da_nil))))
    (dss_cons (ds_set (i := 8) sc_law.nd (de_callF c_law_text_3 hr (by first | decide | omega) T.g_law_text tk (da_cons (de_var 1) (da_cons de_str (da_cons (de_var 4) da_nil)))))
    (dss_cons (ds_set (i := 9) sc_law.nd (de_lst (da_cons (de_bin dop_mod (de_callT dcb_int T.n_int (da_cons (de_bin dop_add (de_var 3) (de_var 2)) da_nil)) de_int) (da_cons (de_lst (da_cons (de_bin dop_mod (de_callT dcb_int T.n_int (da_cons (de_bin dop_add de_int (de_bin dop_mul (de_var 2) (de_var 4))) da_nil)) de_int) (da_cons (de_var 3) da_nil))) da_nil))))
    (dss_cons (ds_if (dt_not (dt_tru (de_callF c_law_same_2 hr (by first | decide | omega) T.g_law_same tk (da_cons (de_lst (da_cons (de_meth mm_after_2 hr (by first | decide | omega) tk (de_var 7) (da_cons (de_var 8) da_nil)) (da_cons (de_meth mm_sides_after_2 hr (by first | decide | omega) tk (de_var 7) (da_cons (de_var 8) da_nil)) da_nil))) (da_cons (de_var 9) da_nil))))) (dss_one (ds_ret de_bl)) dss_nil)
    (dss_cons (ds_set (i := 10) sc_law.nd (de_bin dop_add de_int (de_callF c_law_pull_2 hr (by first | decide | omega) T.g_law_pull tk (da_cons (de_var 1) (da_cons de_int da_nil)))))
    (dss_cons (ds_set (i := 11) sc_law.nd (de_bin dop_add (de_lst (da_cons (de_tup (da_cons de_str da_nil)) da_nil)) (de_lc (own := [("_law_at", 17)]) rfl sc_law.nd (di_range1 T.n_range (da_cons (de_var 10) da_nil)) (blkOk_by (N := N_law) (sc := defScope s_law) (by decide +kernel)) (fun _ _ _ _ _ => (dg_name (i := 17) sc_law.nd)) (fun _ _ _ _ _ => dts_nil) (fun _ _ _ _ _ => (de_tup (da_cons de_str (da_cons de_int (da_cons de_int (da_cons (de_var 17) da_nil)))))) (by decide))))
    (dss_cons (ds_set (i := 12) sc_law.nd (de_make mk_Circuit_3 hr (by first | decide | omega) T.g_Circuit tk (da_cons de_str (da_cons (de_var 11) da_nil))))
    (dss_cons (ds_set (i := 13) sc_law.nd (de_callF c_law_run_3 hr (by first | decide | omega) T.g_law_run tk (da_cons (de_var 11) (da_cons de_str (da_cons (de_var 8) da_nil)))))
    (dss_cons (ds_if (dt_not (dt_tru (de_callF c_law_same_2 hr (by first | decide | omega) T.g_law_same tk (da_cons (de_lst (da_cons (de_meth mm_after_2 hr (by first | decide | omega) tk (de_var 12) (da_cons (de_var 8) da_nil)) (da_cons (de_meth mm_sides_after_2 hr (by first | decide | omega) tk (de_var 12) (da_cons (de_var 8) da_nil)) da_nil))) (da_cons (de_lst (da_cons (de_ix (de_var 13) (de_neg de_int)) (da_cons (de_callT dcb_list T.n_list (da_cons (de_sl (de_var 13) (do_some de_int) do_none) da_nil)) da_nil))) da_nil))))) (dss_one (ds_ret de_bl)) dss_nil)
    (dss_cons (ds_setLc (own := [("_law_k", 16)]) (i := 14) rfl sc_law.nd (di_range1 T.n_range (da_cons de_int da_nil)) (blkOk_by (N := N_law) (sc := defScope s_law) (by decide +kernel)) (fun _ _ _ _ _ => (dg_name (i := 16) sc_law.nd)) (fun _ _ _ _ _ => dts_nil) (fun _ _ _ _ _ => (de_bin (dop_addK K rfl) (de_callF c_law_pull_2 hr (by first | decide | omega) T.g_law_pull takes_none5 (da_cons (de_var 1) (da_cons de_int da_nil))) de_int)) (by decide))
    (dss_cons (ds_set (i := 15) sc_law.nd (de_make mk_Circuit_3 hr (by first | decide | omega) T.g_Circuit tk (da_cons de_str (da_cons (de_lst (da_cons (de_tup (da_cons de_str da_nil)) (da_cons (de_tup (da_cons de_str (da_cons de_int (da_cons (de_tup (da_cons (de_ix (de_var 14) de_int) (da_cons de_int da_nil))) da_nil)))) (da_cons (de_tup (da_cons de_str (da_cons de_int (da_cons de_int (da_cons de_int da_nil))))) da_nil)))) da_nil))))
    (dss_cons (ds_if (dt_not (dt_tru (de_callF0 c_law_greatest_so_0 hr (by first | decide | omega) T.g_law_greatest_so (fun _ _ _ _ h => h)))) (dss_one (ds_ret de_bl)) dss_nil)
    (dss_one (ds_ret (de_callF c_law_same_2 hr (by first | decide | omega) T.g_law_same tk (da_cons (de_lst (da_cons (de_meth mm_after_2 hr (by first | decide | omega) tk (de_var 15) (da_cons (de_bin dop_repS de_str (de_var 4)) da_nil)) (da_cons (de_meth mm_after_2 hr (by first | decide | omega) tk (de_var 15) (da_cons (de_bin dop_add de_str (de_bin dop_repS de_str (de_var 4))) da_nil)) da_nil))) (da_cons (de_lst (da_cons de_int (da_cons (de_bin dop_sub (de_ix (de_var 14) de_int) de_int) da_nil))) da_nil)))))))))))))))))))))⟩
end
end DL.KL
namespace DL.KL
open PySem L2 DL NdefX
theorem tx_of {P : Program} {K : PySem.W.Frag} {h : Heap} {mg : Str → Option Value} (hp1 : P.main.file = file) (hp2 : (P.main.scope.names.lookup ("super" : Str)).isSome = false) (X : K.In h) (G : h.Ns mainGlobals mg) (c : DX.SaysZ fa fn sd pr tf file ex h K) : Tx P K mg where
  pf := hp1
  ps := hp2
  sup := c.y.sup
  more := c.y.more
  n_int := He.free_ok X G (c.y.d.fact 0 (f := .free "int") rfl)
  n_isinstance := He.free_ok X G (c.y.d.fact 1 (f := .free "isinstance") rfl)
  n_bool := He.free_ok X G (c.y.d.fact 2 (f := .free "bool") rfl)
  g_is_number := He.glo_ok X G (c.y.d.fact 3 (f := .glo "is_number") rfl)
  n_zip := He.free_ok X G (c.y.d.fact 4 (f := .free "zip") rfl)
  n_all := He.free_ok X G (c.y.d.fact 5 (f := .free "all") rfl)
  n_str := He.free_ok X G (c.y.d.fact 6 (f := .free "str") rfl)
  n_len := He.free_ok X G (c.y.d.fact 7 (f := .free "len") rfl)
  i_MOST_LETTERS := He.int_ok X G (c.y.d.fact 8 (f := .int "MOST_LETTERS" 4) rfl)
  s_SMALL := He.str_ok X G (c.y.d.fact 9 (f := .str "SMALL" "abcdefghijklmnopqrstuvwxyz") rfl)
  g_ascends := He.glo_ok X G (c.y.d.fact 10 (f := .glo "ascends") rfl)
  g_is_alphabet := He.glo_ok X G (c.y.d.fact 11 (f := .glo "is_alphabet") rfl)
  g_InvalidAlphabet := He.glo_ok X G (c.y.d.fact 12 (f := .glo "InvalidAlphabet") rfl)
  g_is_word := He.glo_ok X G (c.y.d.fact 13 (f := .glo "is_word") rfl)
  g_InvalidWord := He.glo_ok X G (c.y.d.fact 14 (f := .glo "InvalidWord") rfl)
  n_tuple := He.free_ok X G (c.y.d.fact 15 (f := .free "tuple") rfl)
  i_MOST_VALUE := He.int_ok X G (c.y.d.fact 16 (f := .int "MOST_VALUE" 999) rfl)
  g_is_table := He.glo_ok X G (c.y.d.fact 17 (f := .glo "is_table") rfl)
  n_max := He.free_ok X G (c.y.d.fact 18 (f := .free "max") rfl)
  i_MOST_PRIME := He.int_ok X G (c.y.d.fact 19 (f := .int "MOST_PRIME" 97) rfl)
  g_is_prime := He.glo_ok X G (c.y.d.fact 20 (f := .glo "is_prime") rfl)
  g_size_of_cell := He.glo_ok X G (c.y.d.fact 21 (f := .glo "size_of_cell") rfl)
  g_size_of_table := He.glo_ok X G (c.y.d.fact 22 (f := .glo "size_of_table") rfl)
  n_list := He.free_ok X G (c.y.d.fact 23 (f := .free "list") rfl)
  g_need_alphabet := He.glo_ok X G (c.y.d.fact 24 (f := .glo "need_alphabet") rfl)
  g_InvalidLine := He.glo_ok X G (c.y.d.fact 25 (f := .glo "InvalidLine") rfl)
  i_MOST_LINES := He.int_ok X G (c.y.d.fact 26 (f := .int "MOST_LINES" 4000) rfl)
  g_TooMany := He.glo_ok X G (c.y.d.fact 27 (f := .glo "TooMany") rfl)
  n_enumerate := He.free_ok X G (c.y.d.fact 28 (f := .free "enumerate") rfl)
  g_size_of_line := He.glo_ok X G (c.y.d.fact 29 (f := .glo "size_of_line") rfl)
  g_is_cell := He.glo_ok X G (c.y.d.fact 30 (f := .glo "is_cell") rfl)
  g_refs_of := He.glo_ok X G (c.y.d.fact 31 (f := .glo "refs_of") rfl)
  n_any := He.free_ok X G (c.y.d.fact 32 (f := .free "any") rfl)
  cl_Circuit := He.cls_ok (c.y.d.fact 33 (f := .cls "Circuit") rfl)
  na_Circuit_own_alphabet := He.noat_ok (c.y.d.fact 34 (f := .noat "Circuit" "own_alphabet") rfl)
  na_Circuit_own_lines := He.noat_ok (c.y.d.fact 35 (f := .noat "Circuit" "own_lines") rfl)
  na_Circuit_own_sizes := He.noat_ok (c.y.d.fact 36 (f := .noat "Circuit" "own_sizes") rfl)
  na_Circuit_looking := He.noat_ok (c.y.d.fact 37 (f := .noat "Circuit" "looking") rfl)
  na_Circuit_own_cells := He.noat_ok (c.y.d.fact 38 (f := .noat "Circuit" "own_cells") rfl)
  g_changed := He.glo_ok X G (c.y.d.fact 39 (f := .glo "changed") rfl)
  g_need_word := He.glo_ok X G (c.y.d.fact 40 (f := .glo "need_word") rfl)
  n_abs := He.free_ok X G (c.y.d.fact 41 (f := .free "abs") rfl)
  g_law_pull := He.glo_ok X G (c.y.d.fact 42 (f := .glo "_law_pull") rfl)
  g_law_same := He.glo_ok X G (c.y.d.fact 43 (f := .glo "_law_same") rfl)
  n_range := He.free_ok X G (c.y.d.fact 44 (f := .free "range") rfl)
  g_law_of := He.glo_ok X G (c.y.d.fact 45 (f := .glo "_law_of") rfl)
  g_law_values := He.glo_ok X G (c.y.d.fact 46 (f := .glo "_law_values") rfl)
  g_law_begin := He.glo_ok X G (c.y.d.fact 47 (f := .glo "_law_begin") rfl)
  g_law_step := He.glo_ok X G (c.y.d.fact 48 (f := .glo "_law_step") rfl)
  g_Circuit := He.glo_ok X G (c.y.d.fact 49 (f := .glo "Circuit") rfl)
  g_law_bag := He.glo_ok X G (c.y.d.fact 50 (f := .glo "_law_bag") rfl)
  g_law_text := He.glo_ok X G (c.y.d.fact 51 (f := .glo "_law_text") rfl)
  g_law_run := He.glo_ok X G (c.y.d.fact 52 (f := .glo "_law_run") rfl)
  g_law_greatest_so := He.glo_ok X G (c.y.d.fact 53 (f := .glo "_law_greatest_so") rfl)
  me_Circuit_value_of := He.meth_ok (c.y.d.fact 54 (f := .meth "Circuit" "value_of") rfl)
  me_Circuit_line_values := He.meth_ok (c.y.d.fact 55 (f := .meth "Circuit" "line_values") rfl)
  me_Circuit_first_sides := He.meth_ok (c.y.d.fact 56 (f := .meth "Circuit" "first_sides") rfl)
  me_Circuit_stepped := He.meth_ok (c.y.d.fact 57 (f := .meth "Circuit" "stepped") rfl)
  me_Circuit_sides_after := He.meth_ok (c.y.d.fact 58 (f := .meth "Circuit" "sides_after") rfl)
  me_Circuit_value_with := He.meth_ok (c.y.d.fact 59 (f := .meth "Circuit" "value_with") rfl)
  me_Circuit_after := He.meth_ok (c.y.d.fact 60 (f := .meth "Circuit" "after") rfl)
  me_Circuit_sizes := He.meth_ok (c.y.d.fact 61 (f := .meth "Circuit" "sizes") rfl)
  mk_Circuit := He.mkr_ok (c.y.d.fact 62 (f := .mkr "Circuit") rfl)
  n_super := He.free_ok X G (c.y.d.fact 63 (f := .free "super") rfl)
  d_is_number := c.y.d.def_ 0 (d := dd_is_number) rfl
  d_is_prime := c.y.d.def_ 1 (d := dd_is_prime) rfl
  d_ascends := c.y.d.def_ 2 (d := dd_ascends) rfl
  d_is_alphabet := c.y.d.def_ 3 (d := dd_is_alphabet) rfl
  d_is_word := c.y.d.def_ 4 (d := dd_is_word) rfl
  d_need_alphabet := c.y.d.def_ 5 (d := dd_need_alphabet) rfl
  d_need_word := c.y.d.def_ 6 (d := dd_need_word) rfl
  d_is_table := c.y.d.def_ 7 (d := dd_is_table) rfl
  d_size_of_table := c.y.d.def_ 8 (d := dd_size_of_table) rfl
  d_size_of_cell := c.y.d.def_ 9 (d := dd_size_of_cell) rfl
  d_size_of_line := c.y.d.def_ 10 (d := dd_size_of_line) rfl
  d_refs_of := c.y.d.def_ 11 (d := dd_refs_of) rfl
  d_is_cell := c.y.d.def_ 12 (d := dd_is_cell) rfl
  d_changed := c.y.d.def_ 13 (d := dd_changed) rfl
  d_Circuit_init := c.y.d.def_ 14 (d := dd_Circuit_init) rfl
  d_Circuit_sizes := c.y.d.def_ 15 (d := dd_Circuit_sizes) rfl
  d_Circuit_first_sides := c.y.d.def_ 16 (d := dd_Circuit_first_sides) rfl
  d_Circuit_value_of := c.y.d.def_ 17 (d := dd_Circuit_value_of) rfl
  d_Circuit_line_values := c.y.d.def_ 18 (d := dd_Circuit_line_values) rfl
  d_Circuit_stepped := c.y.d.def_ 19 (d := dd_Circuit_stepped) rfl
  d_Circuit_value_with := c.y.d.def_ 20 (d := dd_Circuit_value_with) rfl
  d_Circuit_sides_after := c.y.d.def_ 21 (d := dd_Circuit_sides_after) rfl
  d_Circuit_after := c.y.d.def_ 22 (d := dd_Circuit_after) rfl
  d_law_bag := c.y.d.def_ 23 (d := dd_law_bag) rfl
  d_law_pull := c.y.d.def_ 24 (d := dd_law_pull) rfl
  d_law_of := c.y.d.def_ 25 (d := dd_law_of) rfl
  d_law_same := c.y.d.def_ 26 (d := dd_law_same) rfl
  d_law_text := c.y.d.def_ 27 (d := dd_law_text) rfl
  d_law_values := c.y.d.def_ 28 (d := dd_law_values) rfl
  d_law_begin := c.y.d.def_ 29 (d := dd_law_begin) rfl
  d_law_step := c.y.d.def_ 30 (d := dd_law_step) rfl
  d_law_run := c.y.d.def_ 31 (d := dd_law_run) rfl
  d_law_greatest_so := c.y.d.def_ 32 (d := dd_law_greatest_so) rfl
  d_law := c.y.d.def_ 33 (d := dd_law) rfl
theorem law_glo {K : PySem.W.Frag} {h : Heap} {mg : Str → Option Value} (X : K.In h) (G : h.Ns mainGlobals mg) (c : DX.SaysZ fa fn sd pr tf file ex h K) : mg "law" = some (.ref (He.ga K "law")) := He.glo_ok X G (c.y.d.fact 64 (f := .glo "law") rfl)
end DL.KL
open PySem PySem.W PySem.Calls PyProof.Rows
theorem PySem.Challenge.cw_onlyahead_k24_great_circuits_holds : PySem.Challenge.rw_onlyahead_k24_great_circuits.Holds := by
  w_on; o_law
  refine HandSHeadRun.head_any (r := OpenLaw.row PySem.Challenge.rw_onlyahead_k24_great_circuits) (q := view (OpenLaw.row PySem.Challenge.rw_onlyahead_k24_great_circuits).prog [50]) (H := DL.KL.hk) (ob := DL.KL.ob) (M := 8000) (loose := DL.KL.names) (d := HandSHeadRun.topDef (OpenLaw.row PySem.Challenge.rw_onlyahead_k24_great_circuits).prog 50) (kwd := []) DL.KL.ob_eq
    (by kernel_rfl) (fun s => by kernel_rfl) DL.KL.run (by kernel_rfl) (by kernel_rfl) (by kernel_rfl) (by rfl) (by first | assumption | decide +kernel) (by decide +kernel) ⟨rfl, rfl, rfl, rfl, rfl, by decide +kernel⟩ ?hw ?hc
  case hw => w_witness2
  case hc =>
    refine LamX.walk_ofTsE (l := PySem.Challenge.rw_onlyahead_k24_great_circuits) (n := 63) (k := 9) (x := "_law_script") (CX := fun w => L2.CX (PySem.Challenge.rw_onlyahead_k24_great_circuits).prog w) rfl (by decide) (by kernel_rfl) ⟨rfl, by decide, by decide⟩ ?F ?cx
    case cx => exact fun w H s e s' h => DL.cx_none h
    case F =>
    intro w mg fa h Y G hmg0
    obtain ⟨K, KX, c⟩ := Y
    refine ⟨K, KX, ?_⟩
    have hmg : mg ("law" : PySem.Str) = some (.ref fa) := by
      have e : (HandSHeadRun.topDef (OpenLaw.row PySem.Challenge.rw_onlyahead_k24_great_circuits).prog 50).name = ("law" : PySem.Str) := by kernel_rfl
      rw [← e]
      exact hmg0
    have e := hmg.symm.trans (DL.KL.law_glo KX G c)
    cases e
    have T := DL.KL.tx_of (P := (PySem.Challenge.rw_onlyahead_k24_great_circuits).prog) rfl (by kernel_rfl) KX G c
    obtain ⟨fd, F⟩ := T.d_law
    refine ⟨fd, [], @DL.spOf (DL.bas []) (DL.sp_law K), fun _ h => (List.not_mem_nil h).elim, fun _ h => (List.not_mem_nil h).elim, fun _ h => (List.not_mem_nil h).elim, ?_, ?_, ?_⟩
    · have b := L2.FunD.bindsA (ps := ["_law_script"]) F fun _ _ _ _ _ _ us hl => match us, hl with | [_], _ => rfl
      exact fun s v => b s [v] rfl
    · exact fun H a ns hl hbits _ hS => by
        letI : DL.Tabl := DL.bas []
        haveI : DL.NoTab := ⟨rfl, fun _ _ h => h⟩
        exact DL.start_law hl hbits hS fun p hp => (List.not_mem_nil hp).elim
    · intro base _ _ _
      letI : DL.Tabl := DL.bas []
      obtain ⟨fd2, F2, G2⟩ := DL.KL.ok_law (P := (PySem.Challenge.rw_onlyahead_k24_great_circuits).prog) (w := w) T base
      cases DL.funD_one F F2
      exact G2
