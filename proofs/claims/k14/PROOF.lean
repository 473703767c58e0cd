import PyProof.Rows.All
import Wide.All
import OpenK.AllK
import Wide.FinOn
import HandS.Base
import HandS.Exc
import HandS.TryMany
import HandS.CallSlots
import HandS.Lambda
import HandS.Flow
import HandS.List
import HandS.Text
import HandS.ExcOwn
import HandS.Words
import HandS.Comp
import HandS.Defaults
import HandS.TupAny
import HandS.IsInst
import HandS.Dict
import HandS.Deep
import HandS.Iter
import KE.GoesNew
import KE.GoesMore
import HandS.HeadHook1
import HandS.HeadHook2
import HandS.HeadHook4
import HandS.MakeKwOnly
import HandS.Property
import KE.KExcSuper
import HandS.ExcInit
import HandS.RaiseMore
import HandS.Nested
import HandS.NestedHot
import HandS.ExcField
import HandS.HotCalls
import HandS.Replace
import HandS.FStr
import HandS.OwnEq
import KE.GoesEnumKw
import HandS.More
import HandS.SortInts
import HandS.SetFor
import HandS.Strs
import HandS.Style
import PyProof.TupleOfSeq
import HandS.Head0
import HandS.Head1
import HandS.Head2
import HandS.HeadWalk
import HandS.HeadEnd
import PySem.Challenge.RW_onlyahead_k14_images_and_turns_of_words
set_option Elab.async false
set_option linter.all false
set_option maxRecDepth 100000
set_option maxHeartbeats 0
/-! DL0: data as trees, a store of things that change, and how the abstract heap bears them. -/
namespace DL
open PySem L2
/-- a lambda of the text: id tells it from the others; par: its parameter, that has a default -/
structure LamI where
  id : Nat
  qual : Str
  params : Arguments
  body : Expr
  scope : Scope
  par : Option Str
/-- a function object that a lambda made: its cells by name cl, its code at c, its defaults dV -/
abbrev lamFd (l : LamI) (cl : List (Str × Addr)) (c : Addr) (dV pm ctv : Value) : FuncData := { name := "<lambda>", qualname := l.qual, params := l.params, body := .expr l.body, scope := l.scope, globals := mainGlobals, closure := cloFrom cl l.scope.names [], defaults := dV, kwdefaults := .none, doc := .none, pyModule := pm, annotations := none, code := .ref c, closureTuple := ctv, builtins := builtinsNs }
def FnO (l : LamI) (f : Addr) (cl : List (Str × Addr)) (c : Addr) (dV : Value) : HO := .ext fun h => ∃ pm ctv, h.get? f = some ({ cls := .type "function", data := .func (lamFd l cl c dV pm ctv) } : Obj)
def DflO (T : Addr) : HO := .ext fun h => ∃ t : Tok, h.get? T = some ({ cls := .type "tuple", data := .seq #[.int 0 t] } : Obj)
def FnAt (H : Hp) (l : LamI) (cl : List (Str × Addr)) (f : Addr) : Prop := ∃ c dV, H f = some (FnO l f cl c dV) ∧ H c = some (LamX.CodeO c l.qual) ∧ ((dV = .none ∧ l.par = none) ∨ ∃ T, dV = .ref T ∧ H T = some (DflO T) ∧ l.par ≠ none)
/-- data: trees of what never changes, and the places (cells) of what does -/
inductive Dat where
  | non | bl (b : Bool) | int (i : Int) | str (s : Str)
  | lst (xs : List Dat) | tup (xs : List Dat)
  | dct (ks : List Key) (xs : List Dat)
  | dtt (ks : List (List Key)) (xs : List Dat)
  | sq (K : PySem.W.Frag) (ns : List Int)
  | ins (C : Addr) (ns : List Str) (xs : List Dat)
  | xd (ns : List Str) (xs : List Dat)
  | cell (n : Nat)
  | raw (v : V)
  | fn (l : LamI) (cl : List (Str × Addr))
  | exv (a d : Addr) (ns : List Str) (xs : List Dat)
mutual
/-- d is borne by v: R are the addresses that no tree may touch, rho the places of the cells -/
def RD (H : Hp) (R rho : List Addr) : Dat → V → Prop
  | .non, v => v = .non
  | .bl b, v => v = .bl b
  | .int i, v => v = .int i
  | .str s, v => v = .str s
  | .lst xs, v => ∃ a vs, v = .ref a ∧ a ∉ R ∧ H a = some (.lst vs) ∧ RDs H R rho xs vs
  | .tup xs, v => ∃ a vs, v = .ref a ∧ a ∉ R ∧ H a = some (.tup vs) ∧ RDs H R rho xs vs
  | .dct ks xs, v => ∃ a vs, v = .ref a ∧ a ∉ R ∧ Rd H a (.dK (ks.zip vs)) ∧ ks.length = vs.length ∧ RDs H R rho xs vs
  | .dtt ks xs, v => ∃ a vs, v = .ref a ∧ a ∉ R ∧ Rd H a (.dT (ks.zip vs)) ∧ ks.length = vs.length ∧ RDs H R rho xs vs
  | .sq K ns, v => ∃ a, v = .ref a ∧ ((a ∉ R ∧ Rd H a (.lst (ns.map V.int))) ∨ SqL K (fun _ => none) a (ns.map V.int))
  | .ins C ns xs, v => ∃ a dx vs, v = .ref a ∧ a ∉ R ∧ H a = some (.ins C dx (ns.zip vs)) ∧ ns.length = vs.length ∧ RDs H R rho xs vs
  | .xd ns xs, v => ∃ a vs, v = .ref a ∧ a ∉ R ∧ H a = some (.xd (ns.zip vs)) ∧ ns.length = vs.length ∧ RDs H R rho xs vs
  | .cell n, v => ∃ a, rho[n]? = some a ∧ v = .ref a
  | .raw w, v => v = w
  | .fn l cl, v => ∃ f, v = .ref f ∧ FnAt H l cl f
  | .exv a d ns xs, v => v = .ref a ∧ ∃ vs, d ∉ R ∧ H d = some (.xd (ns.zip vs)) ∧ ns.length = vs.length ∧ RDs H R rho xs vs
def RDs (H : Hp) (R rho : List Addr) : List Dat → List V → Prop
  | [], vs => vs = []
  | d :: ds, vs => ∃ w ws, vs = w :: ws ∧ RD H R rho d w ∧ RDs H R rho ds ws
end
mutual
/-- all cells lie below n -/
def below (n : Nat) : Dat → Prop
  | .non => True | .bl _ => True | .int _ => True | .str _ => True | .raw _ => True
  | .sq _ _ => True | .lst xs => belows n xs | .tup xs => belows n xs | .dct _ xs => belows n xs | .dtt _ xs => belows n xs | .ins _ _ xs => belows n xs | .xd _ xs => belows n xs
  | .cell m => m < n
  | .fn _ _ => True | .exv _ _ _ xs => belows n xs
def belows (n : Nat) : List Dat → Prop
  | [] => True
  | d :: ds => below n d ∧ belows n ds
end
section
variable {H H' : Hp} {R R' rho rho' : List Addr}
theorem rd_some {a : Addr} {u : HO} (h : Rd H a u) : ∃ o, H a = some o := by
  rcases h with h | ⟨o, h⟩
  · exact ⟨_, h⟩
  · exact ⟨_, h⟩
theorem rd_keep {a : Addr} {u : HO} (h : Rd H a u) (hu : ∀ ps, u ≠ .tbl ps) (he : ∀ P, u ≠ .ext P) (k : ∀ o, H a = some o → (∀ ps, o ≠ .tbl ps) → (∀ P, o ≠ .ext P) → H' a = some o) : Rd H' a u := by
  rcases h with h | ⟨o, h⟩
  · exact .inl (k _ h hu he)
  · exact .inr ⟨o, k _ h (fun ps z => by cases z) fun ps z => by cases z⟩
theorem FnAt.mono (m : ∀ a P, H a = some (.ext P) → H' a = some (.ext P)) {l : LamI} {cl : List (Str × Addr)} {f : Addr} (h : FnAt H l cl f) : FnAt H' l cl f := by
  obtain ⟨c, dV, h1, h2, h3⟩ := h
  refine ⟨c, dV, m _ _ h1, m _ _ h2, ?_⟩
  rcases h3 with h3 | ⟨T, e, h3, h4⟩
  · exact .inl h3
  · exact .inr ⟨T, e, m _ _ h3, h4⟩
/-- what R and rho mean may grow -/
structure Mono (H H' : Hp) (R R' rho rho' : List Addr) : Prop where
  keep : ∀ a o, a ∉ R → H a = some o → (∀ ps, o ≠ .tbl ps) → (∀ P, o ≠ .ext P) → H' a = some o
  more : ∀ a, a ∈ R' → a ∈ R ∨ H a = none
  cell : ∀ (n : Nat) a, rho[n]? = some a → rho'[n]? = some a
  fnk : ∀ l cl f, FnAt H l cl f → FnAt H' l cl f
theorem Mono.out (m : Mono H H' R R' rho rho') {a : Addr} (h : a ∉ R) (e : ∃ o, H a = some o) : a ∉ R' := fun z => by
  rcases m.more a z with q | q
  · exact h q
  · obtain ⟨o, e⟩ := e
    rw [q] at e
    cases e
mutual
theorem RD.mono (m : Mono H H' R R' rho rho') : ∀ {d : Dat} {v : V}, RD H R rho d v → RD H' R' rho' d v
  | .non, _, h => by simp only [RD] at h ⊢; exact h
  | .bl _, _, h => by simp only [RD] at h ⊢; exact h
  | .int _, _, h => by simp only [RD] at h ⊢; exact h
  | .str _, _, h => by simp only [RD] at h ⊢; exact h
  | .raw _, _, h => by simp only [RD] at h ⊢; exact h
  | .lst xs, _, h => by
    simp only [RD] at h ⊢
    obtain ⟨a, vs, e, ha, hr, hs⟩ := h
    exact ⟨a, vs, e, m.out ha ⟨_, hr⟩, m.keep a _ ha hr (fun ps z => by cases z) (fun ps z => by cases z), RDs.mono m hs⟩
  | .tup xs, _, h => by
    simp only [RD] at h ⊢
    obtain ⟨a, vs, e, ha, hr, hs⟩ := h
    exact ⟨a, vs, e, m.out ha ⟨_, hr⟩, m.keep a _ ha hr (fun ps z => by cases z) (fun ps z => by cases z), RDs.mono m hs⟩
  | .dct ks xs, _, h => by
    simp only [RD] at h ⊢
    obtain ⟨a, vs, e, ha, hr, hl, hs⟩ := h
    exact ⟨a, vs, e, m.out ha (rd_some hr), rd_keep hr (fun ps z => by cases z) (fun ps z => by cases z) fun o q => m.keep a o ha q, hl, RDs.mono m hs⟩
  | .dtt ks xs, _, h => by
    simp only [RD] at h ⊢
    obtain ⟨a, vs, e, ha, hr, hl, hs⟩ := h
    exact ⟨a, vs, e, m.out ha (rd_some hr), rd_keep hr (fun ps z => by cases z) (fun ps z => by cases z) fun o q => m.keep a o ha q, hl, RDs.mono m hs⟩
  | .sq K ns, _, h => by
    simp only [RD] at h ⊢
    obtain ⟨a, e, h⟩ := h
    refine ⟨a, e, ?_⟩
    rcases h with ⟨ha, hr⟩ | h
    · exact .inl ⟨m.out ha (rd_some hr), rd_keep hr (fun ps z => by cases z) (fun ps z => by cases z) fun o q => m.keep a o ha q⟩
    · exact .inr h
  | .ins C ns xs, _, h => by
    simp only [RD] at h ⊢
    obtain ⟨a, dx, vs, e, ha, hr, hl, hs⟩ := h
    exact ⟨a, dx, vs, e, m.out ha ⟨_, hr⟩, m.keep a _ ha hr (fun ps z => by cases z) (fun ps z => by cases z), hl, RDs.mono m hs⟩
  | .xd ns xs, _, h => by
    simp only [RD] at h ⊢
    obtain ⟨a, vs, e, ha, hr, hl, hs⟩ := h
    exact ⟨a, vs, e, m.out ha ⟨_, hr⟩, m.keep a _ ha hr (fun ps z => by cases z) (fun ps z => by cases z), hl, RDs.mono m hs⟩
  | .cell n, _, h => by
    simp only [RD] at h ⊢
    obtain ⟨a, ha, e⟩ := h
    exact ⟨a, m.cell n a ha, e⟩
  | .fn l cl, _, h => by
    simp only [RD] at h ⊢
    obtain ⟨f, e, h⟩ := h
    exact ⟨f, e, m.fnk _ _ _ h⟩
  | .exv a d ns xs, _, h => by
    simp only [RD] at h ⊢
    obtain ⟨e, vs, hd, h2, hl, hs⟩ := h
    exact ⟨e, vs, m.out hd ⟨_, h2⟩, m.keep d _ hd h2 (fun ps z => by cases z) (fun ps z => by cases z), hl, RDs.mono m hs⟩
theorem RDs.mono (m : Mono H H' R R' rho rho') : ∀ {ds : List Dat} {vs : List V}, RDs H R rho ds vs → RDs H' R' rho' ds vs
  | [], _, h => by simp only [RDs] at h ⊢; exact h
  | d :: ds, _, h => by
    simp only [RDs] at h ⊢
    obtain ⟨w, ws, e, h1, h2⟩ := h
    exact ⟨w, ws, e, RD.mono m h1, RDs.mono m h2⟩
end
mutual
theorem RD.below : ∀ {d : Dat} {v : V}, RD H R rho d v → below rho.length d
  | .non, _, h => by simp only [DL.below]
  | .bl _, _, h => by simp only [DL.below]
  | .int _, _, h => by simp only [DL.below]
  | .str _, _, h => by simp only [DL.below]
  | .raw _, _, h => by simp only [DL.below]
  | .lst xs, _, h => by
    simp only [RD] at h; simp only [DL.below]
    obtain ⟨a, vs, e, ha, hr, hs⟩ := h
    exact RDs.belows hs
  | .tup xs, _, h => by
    simp only [RD] at h; simp only [DL.below]
    obtain ⟨a, vs, e, ha, hr, hs⟩ := h
    exact RDs.belows hs
  | .dct ks xs, _, h => by
    simp only [RD] at h; simp only [DL.below]
    obtain ⟨a, vs, e, ha, hr, hl, hs⟩ := h
    exact RDs.belows hs
  | .dtt ks xs, _, h => by
    simp only [RD] at h; simp only [DL.below]
    obtain ⟨a, vs, e, ha, hr, hl, hs⟩ := h
    exact RDs.belows hs
  | .sq _ _, _, _ => by simp only [DL.below]
  | .ins C ns xs, _, h => by
    simp only [RD] at h; simp only [DL.below]
    obtain ⟨a, dx, vs, e, ha, hr, hl, hs⟩ := h
    exact RDs.belows hs
  | .xd ns xs, _, h => by
    simp only [RD] at h; simp only [DL.below]
    obtain ⟨a, vs, e, ha, hr, hl, hs⟩ := h
    exact RDs.belows hs
  | .cell n, _, h => by
    simp only [RD] at h; simp only [DL.below]
    obtain ⟨a, ha, e⟩ := h
    exact (List.getElem?_eq_some_iff.mp ha).1
  | .fn _ _, _, _ => by simp only [DL.below]
  | .exv a d ns xs, _, h => by
    simp only [RD] at h; simp only [DL.below]
    obtain ⟨e, vs, hd, h2, hl, hs⟩ := h
    exact RDs.belows hs
theorem RDs.belows : ∀ {ds : List Dat} {vs : List V}, RDs H R rho ds vs → belows rho.length ds
  | [], _, h => by simp only [DL.belows]
  | d :: ds, _, h => by
    simp only [RDs] at h; simp only [DL.belows]
    obtain ⟨w, ws, e, h1, h2⟩ := h
    exact ⟨RD.below h1, RDs.belows h2⟩
end
mutual
theorem RD.trim {n : Nat} (hR : ∀ a, a ∈ R' → a ∈ R) : ∀ {d : Dat} {v : V}, RD H R rho d v → below n d → RD H R' (rho.take n) d v
  | .non, _, h, _ => by simp only [RD] at h ⊢; exact h
  | .bl _, _, h, _ => by simp only [RD] at h ⊢; exact h
  | .int _, _, h, _ => by simp only [RD] at h ⊢; exact h
  | .str _, _, h, _ => by simp only [RD] at h ⊢; exact h
  | .raw _, _, h, _ => by simp only [RD] at h ⊢; exact h
  | .lst xs, _, h, b => by
    simp only [RD] at h ⊢; simp only [DL.below] at b
    obtain ⟨a, vs, e, ha, hr, hs⟩ := h
    exact ⟨a, vs, e, fun z => ha (hR a z), hr, RDs.trim hR hs b⟩
  | .tup xs, _, h, b => by
    simp only [RD] at h ⊢; simp only [DL.below] at b
    obtain ⟨a, vs, e, ha, hr, hs⟩ := h
    exact ⟨a, vs, e, fun z => ha (hR a z), hr, RDs.trim hR hs b⟩
  | .dct ks xs, _, h, b => by
    simp only [RD] at h ⊢; simp only [DL.below] at b
    obtain ⟨a, vs, e, ha, hr, hl, hs⟩ := h
    exact ⟨a, vs, e, fun z => ha (hR a z), hr, hl, RDs.trim hR hs b⟩
  | .dtt ks xs, _, h, b => by
    simp only [RD] at h ⊢; simp only [DL.below] at b
    obtain ⟨a, vs, e, ha, hr, hl, hs⟩ := h
    exact ⟨a, vs, e, fun z => ha (hR a z), hr, hl, RDs.trim hR hs b⟩
  | .sq K ns, _, h, _ => by
    simp only [RD] at h ⊢
    obtain ⟨a, e, h⟩ := h
    refine ⟨a, e, ?_⟩
    rcases h with ⟨ha, hr⟩ | h
    · exact .inl ⟨fun z => ha (hR a z), hr⟩
    · exact .inr h
  | .ins C ns xs, _, h, b => by
    simp only [RD] at h ⊢; simp only [DL.below] at b
    obtain ⟨a, dx, vs, e, ha, hr, hl, hs⟩ := h
    exact ⟨a, dx, vs, e, fun z => ha (hR a z), hr, hl, RDs.trim hR hs b⟩
  | .xd ns xs, _, h, b => by
    simp only [RD] at h ⊢; simp only [DL.below] at b
    obtain ⟨a, vs, e, ha, hr, hl, hs⟩ := h
    exact ⟨a, vs, e, fun z => ha (hR a z), hr, hl, RDs.trim hR hs b⟩
  | .cell m, _, h, b => by
    simp only [RD] at h ⊢; simp only [DL.below] at b
    obtain ⟨a, ha, e⟩ := h
    exact ⟨a, by rw [List.getElem?_take, if_pos b]; exact ha, e⟩
  | .fn l cl, _, h, _ => by
    simp only [RD] at h ⊢
    exact h
  | .exv a d ns xs, _, h, b => by
    simp only [RD] at h ⊢; simp only [DL.below] at b
    obtain ⟨e, vs, hd, h2, hl, hs⟩ := h
    exact ⟨e, vs, fun z => hd (hR d z), h2, hl, RDs.trim hR hs b⟩
theorem RDs.trim {n : Nat} (hR : ∀ a, a ∈ R' → a ∈ R) : ∀ {ds : List Dat} {vs : List V}, RDs H R rho ds vs → belows n ds → RDs H R' (rho.take n) ds vs
  | [], _, h, _ => by simp only [RDs] at h ⊢; exact h
  | d :: ds, _, h, b => by
    simp only [RDs] at h ⊢; simp only [DL.belows] at b
    obtain ⟨w, ws, e, h1, h2⟩ := h
    exact ⟨w, ws, e, RD.trim hR h1 b.1, RDs.trim hR h2 b.2⟩
end
end
end DL
/-! DL1: the state: live pairs L, the store S, pinned objects T. -/
namespace DL
open PySem L2
abbrev LL := V → Dat → Prop
/-- what stands at a cell -/
def Node (H : Hp) (R rho : List Addr) (a : Addr) : Dat → Prop
  | .lst xs => ∃ vs, H a = some (.lst vs) ∧ RDs H R rho xs vs
  | .dct ks xs => ∃ vs, H a = some (.dK (ks.zip vs)) ∧ ks.length = vs.length ∧ RDs H R rho xs vs
  | .dtt ks xs => ∃ vs, H a = some (.dT (ks.zip vs)) ∧ ks.length = vs.length ∧ RDs H R rho xs vs
  | .ins C ns xs => ∃ dx vs, H a = some (.ins C dx (ns.zip vs)) ∧ ns.length = vs.length ∧ RDs H R rho xs vs
  | _ => False
theorem Node.some {H : Hp} {R rho : List Addr} {a : Addr} {d : Dat} (h : Node H R rho a d) : ∃ o, H a = .some o := by
  cases d with
  | lst xs => obtain ⟨vs, e, _⟩ := h; exact ⟨_, e⟩
  | dct ks xs => obtain ⟨vs, e, _⟩ := h; exact ⟨_, e⟩
  | dtt ks xs => obtain ⟨vs, e, _⟩ := h; exact ⟨_, e⟩
  | ins C ns xs => obtain ⟨dx, vs, e, _⟩ := h; exact ⟨_, e⟩
  | _ => exact h.elim
abbrev TT' := List (Addr × HO)
/-- a cell of a frame that waits: what it holds -/
def CelO (c : Addr) (o : Obj) : HO := .ext fun h => h.get? c = some o
/-- what holds all along: the tables of code objects, the cells of frames that wait, their data -/
class Tabl where
  tabs : List (Addr × Str)
  cels : List (Addr × Obj)
  own : V → Dat → Prop
/-- tables and what is known by a word stay -/
def Mild (H H' : Hp) : Prop := ∀ b o, H b = some o → ((∃ ps, o = .tbl ps) ∨ ∃ P, o = .ext P) → H' b = some o
theorem Mild.refl (H : Hp) : Mild H H := fun _ _ h _ => h
theorem Mild.new {H : Hp} {p : Addr} {o : HO} (hp : H p = none) : Mild H (upd H p o) := fun b u e _ => by rw [upd_ne (ne_of_none e hp)]; exact e
theorem Mild.at {H : Hp} {p : Addr} {o u : HO} (hp : H p = some u) (n1 : ∀ ps, u ≠ .tbl ps) (n2 : ∀ P, u ≠ .ext P) : Mild H (upd H p o) := fun b w e k => by
  have : b ≠ p := fun z => by
    subst z
    rw [hp] at e
    injection e with e
    subst e
    rcases k with ⟨ps, k⟩ | ⟨P, k⟩
    · exact n1 ps k
    · exact n2 P k
  rw [upd_ne this]; exact e
theorem Mild.ext {H H' : Hp} (m : Mild H H') : ∀ a P, H a = some (.ext P) → H' a = some (.ext P) := fun a P e => m a _ e (.inr ⟨P, rfl⟩)
theorem Mild.tabs {H H' : Hp} (m : Mild H H') {T : List (Addr × Str)} (t : LamX.Tabs T H) : LamX.Tabs T H' := fun p hp => by
  obtain ⟨ps, h1, h2, h3⟩ := t p hp
  refine ⟨ps, m _ _ h1 (.inl ⟨ps, rfl⟩), h2, fun pos cv hc => ?_⟩
  obtain ⟨c, e1, e2⟩ := h3 pos cv hc
  exact ⟨c, e1, m.ext _ _ e2⟩
theorem Node.mild {H : Hp} {R rho : List Addr} {a : Addr} {d : Dat} {o : HO} (h : Node H R rho a d) : Mild H (upd H a o) := by
  cases d with
  | lst xs => obtain ⟨vs, e, _⟩ := h; exact .at e (fun _ z => by cases z) (fun _ z => by cases z)
  | dct ks xs => obtain ⟨vs, e, _⟩ := h; exact .at e (fun _ z => by cases z) (fun _ z => by cases z)
  | dtt ks xs => obtain ⟨vs, e, _⟩ := h; exact .at e (fun _ z => by cases z) (fun _ z => by cases z)
  | ins C ns xs => obtain ⟨dx, vs, e, _⟩ := h; exact .at e (fun _ z => by cases z) (fun _ z => by cases z)
  | _ => exact h.elim
structure SRx [Tabl] (H : Hp) (L : LL) (S : List Dat) (T : List (Addr × HO)) (rho : List Addr) : Prop where
  len : rho.length = S.length
  nd : (rho ++ T.map (·.1)).Nodup
  node : ∀ (n : Nat) a d, rho[n]? = some a → S[n]? = some d → Node H (rho ++ T.map (·.1)) rho a d
  pin : ∀ p ∈ T, H p.1 = some p.2
  rd : ∀ v d, L v d → RD H (rho ++ T.map (·.1)) rho d v
  tab : LamX.Tabs Tabl.tabs H
  cel : ∀ a o, Tabl.cels.lookup a = some o → H a = some (CelO a o)
  own : ∀ v d, Tabl.own v d → RD H (rho ++ T.map (·.1)) rho d v
  ntb : ∀ p ∈ T, (∀ ps, p.2 ≠ .tbl ps) ∧ ∀ Q, p.2 ≠ .ext Q
def SR [Tabl] (H : Hp) (L : LL) (S : List Dat) (T : List (Addr × HO)) : Prop := ∃ rho, SRx H L S T rho
abbrev Lle (L L' : LL) : Prop := ∀ v d, L v d → L' v d
theorem Lle.refl (L : LL) : Lle L L := fun _ _ h => h
theorem Lle.trans {L L1 L2 : LL} (a : Lle L L1) (b : Lle L1 L2) : Lle L L2 := fun v d h => b v d (a v d h)
def Ladd (L : LL) (v : V) (d : Dat) : LL := fun v' d' => L v' d' ∨ (v' = v ∧ d' = d)
theorem Ladd.le {L : LL} {v : V} {d : Dat} : Lle L (Ladd L v d) := fun _ _ h => .inl h
theorem Ladd.here {L : LL} {v : V} {d : Dat} : Ladd L v d v d := .inr ⟨rfl, rfl⟩
def LaddL (L : LL) (vs : List V) (ds : List Dat) : LL := fun v' d' => L v' d' ∨ ∃ i : Nat, vs[i]? = some v' ∧ ds[i]? = some d'
theorem LaddL.le {L : LL} {vs : List V} {ds : List Dat} : Lle L (LaddL L vs ds) := fun _ _ h => .inl h
/-- pair by pair -/
def Ls (L : LL) : List V → List Dat → Prop
  | [], [] => True
  | v :: vs, d :: ds => L v d ∧ Ls L vs ds
  | _, _ => False
theorem Ls.length {L : LL} : ∀ {vs : List V} {ds : List Dat}, Ls L vs ds → vs.length = ds.length
  | [], [], _ => rfl
  | v :: vs, d :: ds, h => by simp [Ls.length h.2]
  | [], d :: ds, h => h.elim
  | v :: vs, [], h => h.elim
theorem Ls.le {L L' : LL} (l : Lle L L') : ∀ {vs : List V} {ds : List Dat}, Ls L vs ds → Ls L' vs ds
  | [], [], _ => True.intro
  | v :: vs, d :: ds, h => ⟨l _ _ h.1, Ls.le l h.2⟩
  | [], d :: ds, h => h.elim
  | v :: vs, [], h => h.elim
theorem Ls.get {L : LL} : ∀ {vs : List V} {ds : List Dat} {i : Nat} {d : Dat}, Ls L vs ds → ds[i]? = some d → ∃ v, vs[i]? = some v ∧ L v d
  | [], [], i, d, _, e => by simp at e
  | v :: vs, c :: ds, 0, d, h, e => by simp at e; subst e; exact ⟨v, by simp, h.1⟩
  | v :: vs, c :: ds, i + 1, d, h, e => by
    obtain ⟨w, h1, h2⟩ := Ls.get (i := i) h.2 (by simpa using e)
    exact ⟨w, by simpa using h1, h2⟩
  | [], d :: ds, _, _, h, _ => h.elim
  | v :: vs, [], _, _, h, _ => h.elim
theorem Ls.getV {L : LL} : ∀ {vs : List V} {ds : List Dat} {i : Nat} {v : V}, Ls L vs ds → vs[i]? = some v → ∃ d, ds[i]? = some d ∧ L v d
  | [], [], i, d, _, e => by simp at e
  | v :: vs, c :: ds, 0, d, h, e => by simp at e; subst e; exact ⟨c, by simp, h.1⟩
  | v :: vs, c :: ds, i + 1, d, h, e => by
    obtain ⟨w, h1, h2⟩ := Ls.getV (i := i) h.2 (by simpa using e)
    exact ⟨w, by simpa using h1, h2⟩
  | [], d :: ds, _, _, h, _ => h.elim
  | v :: vs, [], _, _, h, _ => h.elim
theorem Ls.of {L : LL} : ∀ {vs : List V} {ds : List Dat}, vs.length = ds.length → (∀ (i : Nat) v d, vs[i]? = some v → ds[i]? = some d → L v d) → Ls L vs ds
  | [], [], _, _ => True.intro
  | v :: vs, d :: ds, l, h => ⟨h 0 v d (by simp) (by simp), Ls.of (by simpa using l) fun i w c e1 e2 => h (i + 1) w c (by simpa using e1) (by simpa using e2)⟩
  | [], d :: ds, l, _ => by simp at l
  | v :: vs, [], l, _ => by simp at l
theorem Ls.append {L : LL} : ∀ {vs ws : List V} {ds es : List Dat}, Ls L vs ds → Ls L ws es → Ls L (vs ++ ws) (ds ++ es)
  | [], _, [], _, _, k => k
  | v :: vs, _, d :: ds, _, h, k => ⟨h.1, Ls.append h.2 k⟩
  | [], _, d :: ds, _, h, _ => h.elim
  | v :: vs, _, [], _, h, _ => h.elim
section
variable {H H' : Hp} {L L' : LL} {S : List Dat} {T : List (Addr × HO)} {R rho : List Addr}
theorem RDs.ls {LR : LL} (hL : ∀ v d, RD H R rho d v → LR v d) : ∀ {ds : List Dat} {vs : List V}, RDs H R rho ds vs → Ls LR vs ds
  | [], vs, h => by simp only [RDs] at h; subst h; exact True.intro
  | d :: ds, vs, h => by
    simp only [RDs] at h
    obtain ⟨w, ws, e, h1, h2⟩ := h
    subst e
    exact ⟨hL _ _ h1, RDs.ls hL h2⟩
theorem Ls.rds (hL : ∀ v d, L v d → RD H R rho d v) : ∀ {vs : List V} {ds : List Dat}, Ls L vs ds → RDs H R rho ds vs
  | [], [], _ => by simp only [RDs]
  | v :: vs, d :: ds, h => by
    simp only [RDs]
    exact ⟨v, vs, rfl, hL _ _ h.1, Ls.rds hL h.2⟩
  | [], d :: ds, h => h.elim
  | v :: vs, [], h => h.elim
theorem RDs.len : ∀ {ds : List Dat} {vs : List V}, RDs H R rho ds vs → vs.length = ds.length := fun h => (RDs.ls (LR := fun _ _ => True) (fun _ _ _ => True.intro) h).length
/-- every true pair may be added -/
theorem SRx.more [Tabl] (s : SRx H L S T rho) (h : ∀ v d, L' v d → L v d ∨ RD H (rho ++ T.map (·.1)) rho d v) : SRx H L' S T rho :=
  ⟨s.len, s.nd, s.node, s.pin, fun v d q => (h v d q).elim (s.rd v d) id, s.tab, s.cel, s.own, s.ntb⟩
theorem SR.less [Tabl] (s : SR H L S T) (h : Lle L' L) : SR H L' S T := let ⟨rho, x⟩ := s; ⟨rho, x.more fun v d q => .inl (h v d q)⟩
/-- a pair that holds whatever the heap is -/
def Flat : Dat → V → Prop
  | .non, v => v = .non
  | .bl b, v => v = .bl b
  | .int i, v => v = .int i
  | .str s, v => v = .str s
  | .raw w, v => v = w
  | _, _ => False
theorem Flat.rd {d : Dat} {v : V} (h : Flat d v) : RD H R rho d v := by
  cases d with
  | non => simp only [RD]; exact h
  | bl b => simp only [RD]; exact h
  | int b => simp only [RD]; exact h
  | str b => simp only [RD]; exact h
  | raw b => simp only [RD]; exact h
  | _ => exact h.elim
theorem SR.flat [Tabl] (s : SR H L S T) {d : Dat} {v : V} (h : Flat d v) : SR H (Ladd L v d) S T := by
  obtain ⟨rho, x⟩ := s
  refine ⟨rho, x.more fun v' d' q => ?_⟩
  rcases q with q | ⟨rfl, rfl⟩
  · exact .inl q
  · exact .inr h.rd
/-- a new address lies outside of all that is told -/
theorem SRx.fresh [Tabl] (s : SRx H L S T rho) {p : Addr} (hp : H p = none) : p ∉ rho ++ T.map (·.1) := fun z => by
  rcases List.mem_append.mp z with q | q
  · obtain ⟨n, hn, e⟩ := List.mem_iff_getElem.mp q
    have hs : n < S.length := by rw [← s.len]; exact hn
    obtain ⟨o, ho⟩ := (s.node n p S[n] (by rw [List.getElem?_eq_getElem hn, e]) (List.getElem?_eq_getElem hs)).some
    rw [hp] at ho
    cases ho
  · obtain ⟨t, ht, e⟩ := List.mem_map.mp q
    have ho := s.pin t ht
    rw [e, hp] at ho
    cases ho
theorem Node.mono {R' rho' : List Addr} {a : Addr} {d : Dat} (m : Mono H H' R R' rho rho') (ha : H a = H' a) (h : Node H R rho a d) : Node H' R' rho' a d := by
  cases d with
  | lst xs => obtain ⟨vs, e, r⟩ := h; exact ⟨vs, by rw [← ha]; exact e, RDs.mono m r⟩
  | dct ks xs => obtain ⟨vs, e, l, r⟩ := h; exact ⟨vs, by rw [← ha]; exact e, l, RDs.mono m r⟩
  | dtt ks xs => obtain ⟨vs, e, l, r⟩ := h; exact ⟨vs, by rw [← ha]; exact e, l, RDs.mono m r⟩
  | ins C ns xs => obtain ⟨dx, vs, e, l, r⟩ := h; exact ⟨dx, vs, by rw [← ha]; exact e, l, RDs.mono m r⟩
  | _ => exact h.elim
theorem Mono.upd {p : Addr} {o : HO} (hp : H p = none) : Mono H (upd H p o) R R rho rho :=
  ⟨fun a u _ e _ _ => by rw [upd_ne (ne_of_none e hp)]; exact e, fun a h => .inl h, fun _ _ h => h, fun _ _ _ => FnAt.mono (Mild.new hp).ext⟩
/-- a new object beside: nothing that was told changes -/
theorem SRx.new [Tabl] (s : SRx H L S T rho) {p : Addr} {o : HO} (hp : H p = none) : SRx (upd H p o) L S T rho := by
  have m : Mono H (upd H p o) (rho ++ T.map (·.1)) (rho ++ T.map (·.1)) rho rho := .upd hp
  refine ⟨s.len, s.nd, fun n a d h1 h2 => ?_, fun q hq => ?_, fun v d h => RD.mono m (s.rd v d h), (Mild.new hp).tabs s.tab, fun q o e => (Mild.new hp).ext _ _ (s.cel q o e), fun v d h => RD.mono m (s.own v d h), s.ntb⟩
  · have hn := s.node n a d h1 h2
    obtain ⟨o, ho⟩ := hn.some
    exact hn.mono m (by rw [upd_ne (ne_of_none ho hp)])
  · have hq' := s.pin q hq
    rw [upd_ne (ne_of_none hq' hp)]
    exact hq'
/-- a new tree -/
theorem SR.tree [Tabl] (s : SR H L S T) {p : Addr} {o : HO} {d : Dat} (hp : H p = none) (h : ∀ R rho, p ∉ R → (∀ v d, L v d → RD (upd H p o) R rho d v) → RD (upd H p o) R rho d (.ref p)) : SR (upd H p o) (Ladd L (.ref p) d) S T := by
  obtain ⟨rho, x⟩ := s
  have y := x.new (o := o) hp
  refine ⟨rho, y.more fun v' d' q => ?_⟩
  rcases q with q | ⟨rfl, rfl⟩
  · exact .inl q
  · exact .inr (h _ _ (x.fresh hp) y.rd)
theorem SR.lst [Tabl] (s : SR H L S T) {p : Addr} {vs : List V} {ds : List Dat} (hp : H p = none) (h : Ls L vs ds) : SR (upd H p (.lst vs)) (Ladd L (.ref p) (.lst ds)) S T :=
  s.tree hp fun R rho nr hL => by simp only [RD]; exact ⟨p, vs, rfl, nr, upd_same, Ls.rds hL h⟩
theorem SR.tup [Tabl] (s : SR H L S T) {p : Addr} {vs : List V} {ds : List Dat} (hp : H p = none) (h : Ls L vs ds) : SR (upd H p (.tup vs)) (Ladd L (.ref p) (.tup ds)) S T :=
  s.tree hp fun R rho nr hL => by simp only [RD]; exact ⟨p, vs, rfl, nr, upd_same, Ls.rds hL h⟩
theorem SR.dct [Tabl] (s : SR H L S T) {p : Addr} {ks : List Key} {vs : List V} {ds : List Dat} (hp : H p = none) (hl : ks.length = vs.length) (h : Ls L vs ds) : SR (upd H p (.dK (ks.zip vs))) (Ladd L (.ref p) (.dct ks ds)) S T :=
  s.tree hp fun R rho nr hL => by simp only [RD]; exact ⟨p, vs, rfl, nr, .inl upd_same, hl, Ls.rds hL h⟩
/-- the object that bears a node's data -/
def HoOf (vs : List V) : Dat → HO → Prop
  | .lst _, o => o = .lst vs
  | .dct ks _, o => o = .dK (ks.zip vs) ∧ ks.length = vs.length
  | .dtt ks _, o => o = .dT (ks.zip vs) ∧ ks.length = vs.length
  | .ins C ns _, o => (∃ dx, o = .ins C dx (ns.zip vs)) ∧ ns.length = vs.length
  | _, _ => False
def kids : Dat → List Dat
  | .lst xs => xs | .tup xs => xs | .dct _ xs => xs | .dtt _ xs => xs | .ins _ _ xs => xs | .xd _ xs => xs
  | _ => []
theorem node_of {vs : List V} {a : Addr} {d : Dat} {o : HO} (ha : H a = some o) (ho : HoOf vs d o) (h : RDs H R rho (kids d) vs) : Node H R rho a d := by
  cases d with
  | lst xs => exact ⟨vs, by rw [ha, show o = .lst vs from ho], h⟩
  | dct ks xs => obtain ⟨e, l⟩ := ho; exact ⟨vs, by rw [ha, e], l, h⟩
  | dtt ks xs => obtain ⟨e, l⟩ := ho; exact ⟨vs, by rw [ha, e], l, h⟩
  | ins C ns xs => obtain ⟨⟨dx, e⟩, l⟩ := ho; exact ⟨dx, vs, by rw [ha, e], l, h⟩
  | _ => exact ho.elim
theorem nodup_snoc {xs ys : List Addr} {p : Addr} (h : (xs ++ ys).Nodup) (hp : p ∉ xs ++ ys) : ((xs ++ [p]) ++ ys).Nodup := by
  rw [List.append_assoc]
  have hperm : (xs ++ ([p] ++ ys)).Perm (p :: (xs ++ ys)) := by
    have := List.perm_middle (a := p) (l₁ := xs) (l₂ := ys)
    simpa using this
  exact hperm.nodup_iff.mpr (List.nodup_cons.mpr ⟨hp, h⟩)
/-- a new cell -/
theorem SR.cell [Tabl] (s : SR H L S T) {p : Addr} {o : HO} {vs : List V} {d : Dat} (hp : H p = none) (ho : HoOf vs d o) (h : Ls L vs (kids d)) : SR (upd H p o) (Ladd L (.ref p) (.cell S.length)) (S ++ [d]) T := by
  obtain ⟨rho, x⟩ := s
  have y := x.new (o := o) hp
  have np := x.fresh hp
  have m : Mono (L2.upd H p o) (L2.upd H p o) (rho ++ T.map (·.1)) ((rho ++ [p]) ++ T.map (·.1)) rho (rho ++ [p]) → True := fun _ => True.intro
  -- p is in the new R: trees known ahead do not touch it
  have m2 : Mono H (L2.upd H p o) (rho ++ T.map (·.1)) ((rho ++ [p]) ++ T.map (·.1)) rho (rho ++ [p]) :=
    ⟨fun a u _ e _ _ => by rw [upd_ne (ne_of_none e hp)]; exact e, fun a h => by
      simp only [List.mem_append, List.mem_singleton] at h ⊢
      rcases h with (h | h) | h
      · exact .inl (.inl h)
      · subst h; exact .inr hp
      · exact .inl (.inr h), fun n a e => by rw [List.getElem?_append_left (List.getElem?_eq_some_iff.mp e).1]; exact e, fun _ _ _ => FnAt.mono (Mild.new hp).ext⟩
  refine ⟨rho ++ [p], ?_, nodup_snoc x.nd np, fun n a c h1 h2 => ?_, y.pin, fun v c q => ?_, y.tab, y.cel, fun v c q => RD.mono m2 (x.own v c q), x.ntb⟩
  · simp [x.len]
  · by_cases hn : n < rho.length
    · rw [List.getElem?_append_left hn] at h1
      rw [List.getElem?_append_left (by rw [← x.len]; exact hn)] at h2
      have hx := x.node n a c h1 h2
      obtain ⟨u, hu⟩ := hx.some
      exact hx.mono m2 (by rw [upd_ne (ne_of_none hu hp)])
    · have e : n = rho.length := by
        have := (List.getElem?_eq_some_iff.mp h1).1
        simp at this; omega
      subst e
      rw [List.getElem?_append_right (Nat.le_refl _)] at h1
      rw [List.getElem?_append_right (by rw [x.len]; exact Nat.le_refl _), x.len] at h2
      simp at h1 h2
      subst h1; subst h2
      exact node_of upd_same ho (Ls.rds (fun v c q => RD.mono m2 (x.rd v c q)) h)
  · rcases q with q | ⟨rfl, rfl⟩
    · exact RD.mono m2 (x.rd v c q)
    · simp only [RD]
      exact ⟨p, by rw [← x.len, List.getElem?_append_right (Nat.le_refl _)]; simp, rfl⟩
/-- where a cell stands -/
theorem SRx.at_ [Tabl] (s : SRx H L S T rho) {v : V} {n : Nat} (h : L v (.cell n)) : ∃ a, rho[n]? = some a ∧ v = .ref a := by
  have := s.rd v _ h
  simp only [RD] at this
  exact this
/-- a cell gets other data -/
theorem SR.set [Tabl] (s : SR H L S T) {a : Addr} {n : Nat} {o : HO} {vs : List V} {d : Dat} (hc : L (.ref a) (.cell n)) (ho : HoOf vs d o) (h : Ls L vs (kids d)) : SR (upd H a o) L (S.set n d) T := by
  obtain ⟨rho, x⟩ := s
  obtain ⟨b, hb, e⟩ := x.at_ hc
  injection e with e
  subst e
  have hin : a ∈ rho := List.mem_of_getElem? hb
  have hn := (List.getElem?_eq_some_iff.mp hb).1
  have md : Mild H (L2.upd H a o) := (x.node n a (S[n]'(by rw [← x.len]; exact hn)) hb (List.getElem?_eq_getElem (by rw [← x.len]; exact hn))).mild
  have m : Mono H (L2.upd H a o) (rho ++ T.map (·.1)) (rho ++ T.map (·.1)) rho rho :=
    ⟨fun c u hc e _ _ => by rw [upd_ne fun z => hc (by rw [z]; exact List.mem_append_left _ hin)]; exact e, fun _ h => .inl h, fun _ _ h => h, fun _ _ _ => FnAt.mono md.ext⟩
  have ndr : rho.Nodup := (List.nodup_append.mp x.nd).1
  refine ⟨rho, by rw [List.length_set]; exact x.len, x.nd, fun k c f h1 h2 => ?_, fun p hp => ?_, fun v c q => RD.mono m (x.rd v c q), md.tabs x.tab, fun q o e => md.ext _ _ (x.cel q o e), fun v c q => RD.mono m (x.own v c q), x.ntb⟩
  · by_cases hk : k = n
    · subst hk
      rw [hb] at h1
      injection h1 with h1
      subst h1
      rw [List.getElem?_set_self (by rw [← x.len]; exact hn)] at h2
      injection h2 with h2
      subst h2
      exact node_of upd_same ho (Ls.rds (fun v c q => RD.mono m (x.rd v c q)) h)
    · rw [List.getElem?_set_ne (Ne.symm hk)] at h2
      have hne : c ≠ a := fun z => by
        subst z
        exact hk ((List.getElem?_inj (List.getElem?_eq_some_iff.mp h1).1 ndr).mp (h1.trans hb.symm))
      exact (x.node k c f h1 h2).mono m (by rw [upd_ne hne])
  · have hne : p.1 ≠ a := fun z => by
      have hd := List.nodup_append.mp x.nd
      exact hd.2.2 a hin p.1 (List.mem_map.mpr ⟨p, hp, rfl⟩) z.symm
    rw [upd_ne hne]
    exact x.pin p hp
/-- data as it may be looked at: a tree itself, what stands at a cell -/
def view (S : List Dat) : Dat → Option Dat
  | .cell n => S[n]?
  | d => some d
/-- a list's, a tuple's items -/
theorem SR.list [Tabl] (s : SR H L S T) {v : V} {d : Dat} {ds : List Dat} (h : L v d) (hv : view S d = some (.lst ds)) : ∃ a vs, v = .ref a ∧ H a = some (.lst vs) ∧ SR H (LaddL L vs ds) S T ∧ Ls (LaddL L vs ds) vs ds := by
  obtain ⟨rho, x⟩ := s
  have key : ∀ (vs : List V), RDs H (rho ++ T.map (·.1)) rho ds vs → SR H (LaddL L vs ds) S T ∧ Ls (LaddL L vs ds) vs ds := fun vs r => by
    have q := RDs.ls (LR := fun v d => RD H (rho ++ T.map (·.1)) rho d v) (fun _ _ h => h) r
    refine ⟨⟨rho, x.more fun v d z => ?_⟩, Ls.of q.length fun i w c e1 e2 => .inr ⟨i, e1, e2⟩⟩
    rcases z with z | ⟨i, e1, e2⟩
    · exact .inl z
    · obtain ⟨w, e3, r⟩ := q.get e2
      rw [e1] at e3
      injection e3 with e3
      subst e3
      exact .inr r
  cases d with
  | cell n =>
    obtain ⟨a, ha, e⟩ := x.at_ h
    obtain ⟨vs, e1, r⟩ := x.node n a _ ha hv
    exact ⟨a, vs, e, e1, key vs r⟩
  | lst xs =>
    simp only [view, Option.some.injEq, Dat.lst.injEq] at hv
    subst hv
    have q := x.rd v _ h
    simp only [RD] at q
    obtain ⟨a, vs, e, _, r1, r⟩ := q
    exact ⟨a, vs, e, r1, key vs r⟩
  | _ => simp [view] at hv
theorem SR.tuple [Tabl] (s : SR H L S T) {v : V} {ds : List Dat} (h : L v (.tup ds)) : ∃ a vs, v = .ref a ∧ H a = some (.tup vs) ∧ SR H (LaddL L vs ds) S T ∧ Ls (LaddL L vs ds) vs ds := by
  obtain ⟨rho, x⟩ := s
  have q := x.rd v _ h
  simp only [RD] at q
  obtain ⟨a, vs, e, _, r1, r⟩ := q
  have q := RDs.ls (LR := fun v d => RD H (rho ++ T.map (·.1)) rho d v) (fun _ _ h => h) r
  refine ⟨a, vs, e, r1, ⟨rho, x.more fun v d z => ?_⟩, Ls.of q.length fun i w c e1 e2 => .inr ⟨i, e1, e2⟩⟩
  rcases z with z | ⟨i, e1, e2⟩
  · exact .inl z
  · obtain ⟨w, e3, r⟩ := q.get e2
    rw [e1] at e3
    injection e3 with e3
    subst e3
    exact .inr r
theorem SR.dtt [Tabl] (s : SR H L S T) {p : Addr} {ks : List (List Key)} {vs : List V} {ds : List Dat} (hp : H p = none) (hl : ks.length = vs.length) (h : Ls L vs ds) : SR (upd H p (.dT (ks.zip vs))) (Ladd L (.ref p) (.dtt ks ds)) S T :=
  s.tree hp fun R rho nr hL => by simp only [RD]; exact ⟨p, vs, rfl, nr, .inl upd_same, hl, Ls.rds hL h⟩
end
end DL
/-! DL2: expressions over data. -/
namespace DL
open PySem L2
/-- an error: its class, its attributes -/
structure Exc where
  C : Addr
  ns : List Str
  xs : List Dat
abbrev Env' := List (Option Dat)
abbrev Store := List Dat
abbrev KE := Dat → Store → Prop
abbrev KX := Exc → Store → Prop
abbrev UE := Env' → Store → KE → KX → Prop
abbrev UT := Env' → Store → (Bool → Store → Prop) → KX → Prop
abbrev UA := Env' → Store → (List Dat → Store → Prop) → KX → Prop
def EnvIn (sg : St) (dl : Env') (L : LL) : Prop := sg.length = dl.length ∧ ∀ (i : Nat) d, dl[i]? = some (some d) → ∃ v, sg[i]? = some (some v) ∧ L v d
theorem EnvIn.le {sg : St} {dl : Env'} {L L' : LL} (e : EnvIn sg dl L) (l : Lle L L') : EnvIn sg dl L' := ⟨e.1, fun i d h => let ⟨v, a, b⟩ := e.2 i d h; ⟨v, a, l _ _ b⟩⟩
def XOk [Tabl] (W : WX) (sg : St) (L : LL) (T : List (Addr × HO)) (X : KX) : Prop := ∀ e dd L' H' S', Lle L L' → L' (.ref dd) (.xd e.ns e.xs) → SR H' L' S' T → X e S' → W (.ref e.C) (some dd) sg H'
def EOk [Tabl] (L : LL) (T : List (Addr × HO)) (K : KE) (Q : VK) : Prop := ∀ v d L' H' S', Lle L L' → L' v d → SR H' L' S' T → K d S' → Q v H'
def TOk [Tabl] (L : LL) (T : List (Addr × HO)) (K : Bool → Store → Prop) (Q : Bool → Hp → Prop) : Prop := ∀ b L' H' S', Lle L L' → SR H' L' S' T → K b S' → Q b H'
def AOk [Tabl] (L : LL) (T : List (Addr × HO)) (K : List Dat → Store → Prop) (Q : List V → Hp → Prop) : Prop := ∀ vs ds L' H' S', Lle L L' → Ls L' vs ds → SR H' L' S' T → K ds S' → Q vs H'
theorem XOk.le [Tabl] {W : WX} {sg : St} {L L' : LL} {T : List (Addr × HO)} {X : KX} (x : XOk W sg L T X) (l : Lle L L') : XOk W sg L' T X := fun e dd L2 H' S' h => x e dd L2 H' S' (l.trans h)
theorem EOk.le [Tabl] {L L' : LL} {T : List (Addr × HO)} {K : KE} {Q : VK} (x : EOk L T K Q) (l : Lle L L') : EOk L' T K Q := fun v d L2 H' S' h => x v d L2 H' S' (l.trans h)
theorem TOk.le [Tabl] {L L' : LL} {T : List (Addr × HO)} {K : Bool → Store → Prop} {Q : Bool → Hp → Prop} (x : TOk L T K Q) (l : Lle L L') : TOk L' T K Q := fun b L2 H' S' h => x b L2 H' S' (l.trans h)
theorem AOk.le [Tabl] {L L' : LL} {T : List (Addr × HO)} {K : List Dat → Store → Prop} {Q : List V → Hp → Prop} (x : AOk L T K Q) (l : Lle L L') : AOk L' T K Q := fun b d L2 H' S' h => x b d L2 H' S' (l.trans h)
/-- the reading t over values is met by the reading u over data -/
def ImpE [Tabl] (W : WX) (t : TE) (u : UE) : Prop := ∀ {sg dl L H S T K X Q}, EnvIn sg dl L → SR H L S T → u dl S K X → EOk L T K Q → XOk W sg L T X → t sg H Q
def ImpT [Tabl] (W : WX) (t : TT) (u : UT) : Prop := ∀ {sg dl L H S T K X Q}, EnvIn sg dl L → SR H L S T → u dl S K X → TOk L T K Q → XOk W sg L T X → t sg H Q
def ImpA [Tabl] (W : WX) (t : TA) (u : UA) : Prop := ∀ {sg dl L H S T K X Q}, EnvIn sg dl L → SR H L S T → u dl S K X → AOk L T K Q → XOk W sg L T X → t sg H Q
/-- an operation on values, on data -/
abbrev G1 := Dat → Store → KE → Prop
abbrev G2 := Dat → Dat → Store → KE → Prop
abbrev GL := List Dat → Store → KE → Prop
abbrev GM := Dat → List Dat → Store → KE → Prop
def OpI [Tabl] (r : R2) (g : G2) : Prop := ∀ {x y dx dy L H S T K Q}, SR H L S T → L x dx → L y dy → g dx dy S K → EOk L T K Q → r x y H Q
def UnI [Tabl] (r : V → Hp → VK → Prop) (g : G1) : Prop := ∀ {x dx L H S T K Q}, SR H L S T → L x dx → g dx S K → EOk L T K Q → r x H Q
def CbI [Tabl] (r : List V → Hp → VK → Prop) (g : GL) : Prop := ∀ {xs ds L H S T K Q}, SR H L S T → Ls L xs ds → g ds S K → EOk L T K Q → r xs H Q
def MtI [Tabl] (r : V → List V → Hp → VK → Prop) (g : GM) : Prop := ∀ {x dx xs ds L H S T K Q}, SR H L S T → L x dx → Ls L xs ds → g dx ds S K → EOk L T K Q → r x xs H Q
structure DE [Tabl] (X : Cx) (W : WX) (e : Expr) (t : TE) (u : UE) : Prop where
  run : PE X e t
  imp : ImpE W t u
structure DT [Tabl] (X : Cx) (W : WX) (e : Expr) (t : TT) (u : UT) : Prop where
  run : PT X e t
  imp : ImpT W t u
structure DW [Tabl] (X : Cx) (W : WX) (e : Expr) (t : TT) (u : UT) : Prop where
  run : PW X e t
  imp : ImpT W t u
structure DA [Tabl] (X : Cx) (W : WX) (es : List Expr) (t : TA) (u : UA) : Prop where
  run : PA X es t
  imp : ImpA W t u
theorem DW.dt [Tabl] {X : Cx} {W : WX} {e : Expr} {t : TT} {u : UT} (h : DW X W e t u) : DT X W e t u := ⟨h.run.pt, h.imp⟩
/-! ### readings over data -/
def uVar (i : Nat) : UE := fun dl S K _ => match dl[i]? with
  | some (some d) => K d S
  | _ => False
def uC (d : Dat) : UE := fun _ S K _ => K d S
def uOp (g : G2) (ua ub : UE) : UE := fun dl S K X => ua dl S (fun x S1 => ub dl S1 (fun y S2 => g x y S2 K) X) X
def uUn (g : G1) (ua : UE) : UE := fun dl S K X => ua dl S (fun x S1 => g x S1 K) X
def uNil : UA := fun _ S K _ => K [] S
def uCons (ua : UE) (ur : UA) : UA := fun dl S K X => ua dl S (fun x S1 => ur dl S1 (fun xs S2 => K (x :: xs) S2) X) X
def uTup (ua : UA) : UE := fun dl S K X => ua dl S (fun xs S1 => xs.length ≤ sizeLine ∧ K (.tup xs) S1) X
/-- a display that never changes; one that may be changed -/
def uLst (ua : UA) : UE := fun dl S K X => ua dl S (fun xs S1 => xs.length ≤ sizeLine ∧ K (.lst xs) S1) X
def uLstC (ua : UA) : UE := fun dl S K X => ua dl S (fun xs S1 => xs.length ≤ sizeLine ∧ K (.cell S1.length) (S1 ++ [.lst xs])) X
def uCB (g : GL) (ua : UA) : UE := fun dl S K X => ua dl S (fun xs S1 => g xs S1 K) X
def uIf (t : UT) (ua ub : UE) : UE := fun dl S K X => t dl S (fun c S1 => if c = true then ua dl S1 K X else ub dl S1 K X) X
def uTest (ua : UE) : UT := fun dl S K X => ua dl S (fun d S1 => match d with
  | .bl b => K b S1
  | _ => False) X
def uAnd (a b : UT) : UT := fun dl S K X => a dl S (fun c S1 => if c = true then b dl S1 K X else K false S1) X
def uOr (a b : UT) : UT := fun dl S K X => a dl S (fun c S1 => if c = true then K true S1 else b dl S1 K X) X
def uNot (a : UT) : UT := fun dl S K X => a dl S (fun c S1 => K (!c) S1) X
/-- the truth of data -/
def gTru (d : Dat) (S : Store) (K : Bool → Store → Prop) : Prop := match d with
  | .non => K false S
  | .bl b => K b S
  | .int i => K (i != 0) S
  | .str y => y.length ≤ sizeLine ∧ K ((y.length : Int) != 0) S
  | .tup xs => K (!xs.isEmpty) S
  | .lst xs => K (!xs.isEmpty) S
  | .cell n => match S[n]? with
    | some (.lst xs) => K (!xs.isEmpty) S
    | _ => False
  | _ => False
def uTru (ua : UE) : UT := fun dl S K X => ua dl S (fun d S1 => gTru d S1 K) X
def uAndV (ua ub : UE) : UE := fun dl S K X => ua dl S (fun d S1 => gTru d S1 fun c S2 => if c = true then ub dl S2 K X else K d S2) X
def uOrV (ua ub : UE) : UE := fun dl S K X => ua dl S (fun d S1 => gTru d S1 fun c S2 => if c = true then K d S2 else ub dl S2 K X) X
def uNotV (ua : UE) : UE := fun dl S K X => ua dl S (fun d S1 => gTru d S1 fun c S2 => K (.bl (!c)) S2) X
def uChain (g g' : G2) (ua ub uc : UE) : UE := fun dl S K X => ua dl S (fun x S1 => ub dl S1 (fun y S2 => g x y S2 fun z S3 => match z with
  | .bl c => if c = true then uc dl S3 (fun w S4 => g' y w S4 K) X else K (.bl false) S3
  | _ => False) X) X
section
variable {X : Cx} {W : WX} {a b c e : Expr} {es rest : List Expr} {ta tb tc te : TE} {ua ub uc ue : UE} {tA tB' : TT} {uA uB : UT} {t : TA} {u : UA} {pos : Pos} {r r' : R2} {g g' : G2}
theorem imp_var [Tabl] {i : Nat} : ImpE W (tVar i) (uVar i) := fun {sg dl L H S T K X Q} he hs h ho _ => by
  unfold uVar at h
  cases e : dl[i]? with
  | none => rw [e] at h; exact h.elim
  | some o =>
    rw [e] at h
    cases o with
    | none => exact h.elim
    | some d =>
      obtain ⟨v, h1, h2⟩ := he.2 i d e
      exact ⟨v, h1, ho v d L H S (.refl L) h2 hs h⟩
theorem de_var [Tabl] (i : Nat) {x : Str} (hN : X.N[i]? = some x := by rfl) (hv : Vis X.env.scope x := by first | exact Or.inl rfl | exact Or.inr (Or.inl rfl) | exact Or.inr (Or.inr rfl)) (hd : (x == ("__debug__" : Str)) = false := by decide)
    (hcd : (x == ("__classdict__" : Str)) = false := by decide) : DE X W (.Name x pos) (tVar i) (uVar i) := ⟨pe_var hN hv hd hcd, imp_var⟩
theorem imp_c [Tabl] {v : V} {d : Dat} (h : Flat d v) : ImpE W (tC v) (uC d) := fun {sg dl L H S T K X Q} _ hs hu ho _ =>
  ho v d (Ladd L v d) H S Ladd.le Ladd.here (hs.flat h) hu
theorem de_int [Tabl] {i j} : DE X W (.Constant (.int i) j pos) (tC (.int i)) (uC (.int i)) := ⟨pe_int, imp_c (d := .int i) (v := .int i) rfl⟩
theorem de_bl [Tabl] {b j} : DE X W (.Constant (.bool b) j pos) (tC (.bl b)) (uC (.bl b)) := ⟨pe_bl, imp_c (d := .bl b) (v := .bl b) rfl⟩
theorem de_non [Tabl] {j} : DE X W (.Constant .none j pos) (tC .non) (uC .non) := ⟨pe_non, imp_c (d := .non) (v := .non) rfl⟩
theorem de_str [Tabl] {x j} : DE X W (.Constant (.str x) j pos) (tC (.str x)) (uC (.str x)) := ⟨pe_str, imp_c (d := .str x) (v := .str x) rfl⟩
/-- a module's constant -/
theorem de_glob [Tabl] {x : Str} {v : V} {d : Dat} {w : Value} (hm : X.mg x = some w) (r : RelV v w) (hf : Flat d v := by rfl) (hg : Gl X x := by rfl) (hd : (x == ("__debug__" : Str)) = false := by decide) : DE X W (.Name x pos) (tC v) (uC d) := ⟨pe_glob hg hm r hd, imp_c hf⟩
theorem imp_op [Tabl] (ho : OpI r g) (ha : ImpE W ta ua) (hb : ImpE W tb ub) : ImpE W (tOp r ta tb) (uOp g ua ub) := fun {sg dl L H S T K X Q} he hs h hq hx =>
  ha he hs h (fun x dx L1 H1 S1 l1 p1 s1 h1 => hb (he.le l1) s1 h1 (fun y dy L2 H2 S2 l2 p2 s2 h2 => ho s2 (l2 _ _ p1) p2 h2 (hq.le (l1.trans l2))) (hx.le l1)) hx
theorem imp_un [Tabl] {r : V → Hp → VK → Prop} {g : G1} (ho : UnI r g) (ha : ImpE W ta ua) : ImpE W (tUn r ta) (uUn g ua) := fun {sg dl L H S T K X Q} he hs h hq hx =>
  ha he hs h (fun x dx L1 H1 S1 l1 p1 s1 h1 => ho s1 p1 h1 (hq.le l1)) hx
theorem da_nil [Tabl] : DA X W [] tNil uNil := ⟨pa_nil, fun {sg dl L H S T K X Q} _ hs h hq _ => hq [] [] L H S (.refl L) True.intro hs h⟩
theorem imp_cons [Tabl] (ha : ImpE W ta ua) (hr : ImpA W t u) : ImpA W (tCons ta t) (uCons ua u) := fun {sg dl L H S T K X Q} he hs h hq hx =>
  ha he hs h (fun x dx L1 H1 S1 l1 p1 s1 h1 => hr (he.le l1) s1 h1 (fun ys dys L2 H2 S2 l2 p2 s2 h2 => hq (x :: ys) (dx :: dys) L2 H2 S2 (l1.trans l2) ⟨l2 _ _ p1, p2⟩ s2 h2) (hx.le l1)) hx
theorem da_cons [Tabl] (ha : DE X W e te ue) (hr : DA X W es t u) (hs : starEach (e :: es) X.env = (false, eval e X.env) :: starEach es X.env := by rfl) : DA X W (e :: es) (tCons te t) (uCons ue u) := ⟨pa_cons ha.run hr.run hs, imp_cons ha.imp hr.imp⟩
theorem de_tup [Tabl] {x1} (h : DA X W es t u) : DE X W (.Tuple es x1 pos) (tTup t) (uTup u) := ⟨pe_tup h.run, fun {sg dl L H S T K X Q} he hs h' hq hx =>
  h.imp he hs h' (fun vs ds L1 H1 S1 l1 p1 s1 h1 => ⟨by rw [p1.length]; exact h1.1, fun p hp => hq _ _ _ _ S1 (l1.trans Ladd.le) Ladd.here (s1.tup hp p1) h1.2⟩) hx⟩
theorem de_lst [Tabl] (h : DA X W es t u) : DE X W (.List es pos) (tLst t) (uLst u) := ⟨pe_lst h.run, fun {sg dl L H S T K X Q} he hs h' hq hx =>
  h.imp he hs h' (fun vs ds L1 H1 S1 l1 p1 s1 h1 => ⟨by rw [p1.length]; exact h1.1, fun p hp => hq _ _ _ _ S1 (l1.trans Ladd.le) Ladd.here (s1.lst hp p1) h1.2⟩) hx⟩
theorem de_lstC [Tabl] (h : DA X W es t u) : DE X W (.List es pos) (tLst t) (uLstC u) := ⟨pe_lst h.run, fun {sg dl L H S T K X Q} he hs h' hq hx =>
  h.imp he hs h' (fun vs ds L1 H1 S1 l1 p1 s1 h1 => ⟨by rw [p1.length]; exact h1.1, fun p hp => hq _ _ _ _ _ (l1.trans Ladd.le) Ladd.here (s1.cell (d := .lst ds) hp rfl p1) h1.2⟩) hx⟩
/-! operators: the rule by values and by data -/
structure DOp [Tabl] (X : Cx) (f : Value → Value → Sem Value) (r : R2) (g : G2) : Prop where
  run : OpR X f r
  imp : OpI r g
theorem de_bin [Tabl] {op : Operator} (ho : DOp X (binaryOp op) r g) (ha : DE X W a ta ua) (hb : DE X W b tb ub) : DE X W (.BinOp a op b pos) (tOp r ta tb) (uOp g ua ub) := ⟨pe_op ho.run ha.run hb.run, imp_op ho.imp ha.imp hb.imp⟩
theorem de_cmp [Tabl] {op : CmpOp} (ho : DOp X (compareOp op) r g) (ha : DE X W a ta ua) (hb : DE X W b tb ub) (hm : behindInMarks op b = false := by first | exact nomark _ | rfl) : DE X W (.Compare a [op] [b] pos) (tOp r ta tb) (uOp g ua ub) := ⟨pe_cmpR ho.run ha.run hb.run hm, imp_op ho.imp ha.imp hb.imp⟩
theorem imp_test [Tabl] (ha : ImpE W ta ua) : ImpT W (tTest ta) (uTest ua) := fun {sg dl L H S T K X Q} he hs h hq hx =>
  ha he hs h (fun v d L1 H1 S1 l1 p1 s1 h1 => by
    cases d with
    | bl b =>
      obtain ⟨rho, x⟩ := id s1
      have := x.rd _ _ p1
      simp only [RD] at this
      exact ⟨b, this, hq b L1 H1 S1 l1 s1 h1⟩
    | _ => exact h1.elim) hx
theorem dt_cmp [Tabl] {op : CmpOp} (ho : DOp X (compareOp op) r g) (ha : DE X W a ta ua) (hb : DE X W b tb ub) (hm : behindInMarks op b = false := by first | exact nomark _ | rfl) : DT X W (.Compare a [op] [b] pos) (tTest (tOp r ta tb)) (uTest (uOp g ua ub)) := ⟨pt_cmpR ho.run ha.run hb.run hm, imp_test (imp_op ho.imp ha.imp hb.imp)⟩
theorem imp_chain [Tabl] (ho : OpI r g) (ho' : OpI r' g') (ha : ImpE W ta ua) (hb : ImpE W tb ub) (hc : ImpE W tc uc) : ImpE W (tChain r r' ta tb tc) (uChain g g' ua ub uc) := fun {sg dl L H S T K X Q} he hs h hq hx =>
  ha he hs h (fun x dx L1 H1 S1 l1 p1 s1 h1 => hb (he.le l1) s1 h1 (fun y dy L2 H2 S2 l2 p2 s2 h2 => ho s2 (l2 _ _ p1) p2 h2 fun z dz L3 H3 S3 l3 p3 s3 h3 => by
    cases dz with
    | bl c =>
      obtain ⟨rho, q⟩ := id s3
      have := q.rd _ _ p3
      simp only [RD] at this
      refine ⟨c, this, ?_⟩
      cases c with
      | true => exact hc (he.le ((l1.trans l2).trans l3)) s3 h3 (fun w dw L4 H4 S4 l4 p4 s4 h4 => ho' s4 (l4 _ _ (l3 _ _ p2)) p4 h4 (hq.le (((l1.trans l2).trans l3).trans l4))) (hx.le ((l1.trans l2).trans l3))
      | false => exact hq (.bl false) (.bl false) (Ladd L3 _ _) H3 S3 (((l1.trans l2).trans l3).trans Ladd.le) Ladd.here (s3.flat rfl) h3
    | _ => exact h3.elim) (hx.le l1)) hx
theorem de_chain [Tabl] {op op' : CmpOp} (ho : DOp X (compareOp op) r g) (ho' : DOp X (compareOp op') r' g') (ha : DE X W a ta ua) (hb : DE X W b tb ub) (hc : DE X W c tc uc) (hm : lastMarks [op, op'] [b, c] = false := by with_unfolding_all rfl) : DE X W (.Compare a [op, op'] [b, c] pos) (tChain r r' ta tb tc) (uChain g g' ua ub uc) :=
  ⟨pe_chain ho.run ho'.run ha.run hb.run hc.run hm, imp_chain ho.imp ho'.imp ha.imp hb.imp hc.imp⟩
theorem dt_chain [Tabl] {op op' : CmpOp} (ho : DOp X (compareOp op) r g) (ho' : DOp X (compareOp op') r' g') (ha : DE X W a ta ua) (hb : DE X W b tb ub) (hc : DE X W c tc uc) (hm : lastMarks [op, op'] [b, c] = false := by with_unfolding_all rfl) :
    DT X W (.Compare a [op, op'] [b, c] pos) (tTest (tChain r r' ta tb tc)) (uTest (uChain g g' ua ub uc)) := ⟨pt_chain ho.run ho'.run ha.run hb.run hc.run hm, imp_test (imp_chain ho.imp ho'.imp ha.imp hb.imp hc.imp)⟩
/-! truth -/
theorem tru_of [Tabl] {K' : PySem.W.Frag} {L : LL} {H : Hp} {S : Store} {T : List (Addr × HO)} {K : Bool → Store → Prop} {d : Dat} {v : V} (hs : SR H L S T) (hp : L v d) (h : gTru d S K) : ∃ k, TruV K' v H k ∧ K k S := by
  obtain ⟨rho, x⟩ := id hs
  have q := x.rd _ _ hp
  cases d with
  | non => simp only [RD] at q; subst q; exact ⟨false, rfl, h⟩
  | bl b => simp only [RD] at q; subst q; exact ⟨b, rfl, h⟩
  | int i => simp only [RD] at q; subst q; exact ⟨_, rfl, h⟩
  | str y => simp only [RD] at q; subst q; exact ⟨_, ⟨h.1, rfl⟩, h.2⟩
  | tup xs =>
    obtain ⟨a, vs, e, r, _, k⟩ := hs.tuple hp
    subst e
    refine ⟨_, .inr (.inl ⟨vs, .of r, rfl⟩), ?_⟩
    have l := k.length
    have e : vs.isEmpty = xs.isEmpty := by cases vs <;> cases xs <;> simp at l ⊢
    rw [e]; exact h
  | lst xs =>
    obtain ⟨a, vs, e, r, _, k⟩ := hs.list hp rfl
    subst e
    refine ⟨_, .inl ⟨vs, .of r, rfl⟩, ?_⟩
    have l := k.length
    have e : vs.isEmpty = xs.isEmpty := by cases vs <;> cases xs <;> simp at l ⊢
    rw [e]; exact h
  | cell n =>
    have h : (match S[n]? with
      | some (.lst xs) => K (!xs.isEmpty) S
      | _ => False) := h
    cases e : S[n]? with
    | none => rw [e] at h; exact h.elim
    | some d' =>
      rw [e] at h
      cases d' with
      | lst xs =>
        obtain ⟨a, vs, e, r, _, k⟩ := hs.list (ds := xs) hp e
        subst e
        refine ⟨_, .inl ⟨vs, .of r, rfl⟩, ?_⟩
        have l := k.length
        have e : vs.isEmpty = xs.isEmpty := by cases vs <;> cases xs <;> simp at l ⊢
        rw [e]; exact h
      | _ => exact h.elim
  | _ => exact h.elim
theorem dt_tru [Tabl] (ha : DE X W a ta ua) (hh : ∀ whole, isTrue a X.env whole = (do let v ← whole; standAt a.pos; holding [v] (truthy v)) := by intro _; rfl) : DT X W a (fun sg H Q => ta sg H fun x H' => ∃ k, TruV X.K x H' k ∧ Q k H') (uTru ua) :=
  ⟨pt_truth ha.run hh, fun {sg dl L H S T K X' Q} he hs h hq hx => ha.imp he hs h (fun v d L1 H1 S1 l1 p1 s1 h1 => by
    obtain ⟨k, hk, q⟩ := tru_of (K' := X.K) s1 p1 h1
    exact ⟨k, hk, hq k L1 H1 S1 l1 s1 q⟩) hx⟩
theorem gTru_imp {d : Dat} {S : Store} {K K' : Bool → Store → Prop} (h : gTru d S K) (k : ∀ b, K b S → K' b S) : gTru d S K' := by
  cases d with
  | non => exact k _ h
  | bl b => exact k _ h
  | int i => exact k _ h
  | str y => exact ⟨h.1, k _ h.2⟩
  | tup xs => exact k _ h
  | lst xs => exact k _ h
  | cell n =>
    have h : (match S[n]? with
      | some (.lst xs) => K (!xs.isEmpty) S
      | _ => False) := h
    show (match S[n]? with
      | some (.lst xs) => K' (!xs.isEmpty) S
      | _ => False)
    cases e : S[n]? with
    | none => rw [e] at h; exact h.elim
    | some d' =>
      rw [e] at h
      cases d' with
      | lst xs => exact k _ h
      | _ => exact h.elim
  | _ => exact h.elim
theorem de_and [Tabl] (ha : DE X W a ta ua) (hb : DE X W (.BoolOp .And (b :: rest) pos) tb ub) : DE X W (.BoolOp .And (a :: b :: rest) pos) (tAndT X.K ta tb) (uAndV ua ub) := ⟨pe_andT ha.run hb.run, fun {sg dl L H S T K X' Q} he hs h hq hx =>
  ha.imp he hs h (fun v d L1 H1 S1 l1 p1 s1 h1 => by
    obtain ⟨k, hk, q⟩ := tru_of (K' := X.K) s1 p1 h1
    refine ⟨k, hk, ?_⟩
    cases k with
    | true => exact hb.imp (he.le l1) s1 q (hq.le l1) (hx.le l1)
    | false => exact hq v d L1 H1 S1 l1 p1 s1 q) hx⟩
theorem de_or [Tabl] (ha : DE X W a ta ua) (hb : DE X W (.BoolOp .Or (b :: rest) pos) tb ub) : DE X W (.BoolOp .Or (a :: b :: rest) pos) (tOrT X.K ta tb) (uOrV ua ub) := ⟨pe_orT ha.run hb.run, fun {sg dl L H S T K X' Q} he hs h hq hx =>
  ha.imp he hs h (fun v d L1 H1 S1 l1 p1 s1 h1 => by
    obtain ⟨k, hk, q⟩ := tru_of (K' := X.K) s1 p1 h1
    refine ⟨k, hk, ?_⟩
    cases k with
    | true => exact hq v d L1 H1 S1 l1 p1 s1 q
    | false => exact hb.imp (he.le l1) s1 q (hq.le l1) (hx.le l1)) hx⟩
theorem de_one [Tabl] {op} (ha : DE X W a ta ua) : DE X W (.BoolOp op [a] pos) ta ua := ⟨pe_one ha.run, ha.imp⟩
theorem de_not [Tabl] (ha : DE X W a ta ua) : DE X W (.UnaryOp .Not a pos) (tNotT X.K ta) (uNotV ua) := ⟨pe_notT ha.run, fun {sg dl L H S T K X' Q} he hs h hq hx =>
  ha.imp he hs h (fun v d L1 H1 S1 l1 p1 s1 h1 => by
    obtain ⟨k, hk, q⟩ := tru_of (K' := X.K) s1 p1 h1
    exact ⟨k, hk, hq (.bl (!k)) (.bl (!k)) (Ladd L1 _ _) H1 S1 (l1.trans Ladd.le) Ladd.here (s1.flat rfl) q⟩) hx⟩
theorem imp_and [Tabl] (ha : ImpT W tA uA) (hb : ImpT W tB' uB) : ImpT W (tAnd tA tB') (uAnd uA uB) := fun {sg dl L H S T K X Q} he hs h hq hx =>
  ha he hs h (fun c L1 H1 S1 l1 s1 h1 => by
    cases c with
    | true => exact hb (he.le l1) s1 h1 (hq.le l1) (hx.le l1)
    | false => exact hq false L1 H1 S1 l1 s1 h1) hx
theorem imp_or [Tabl] (ha : ImpT W tA uA) (hb : ImpT W tB' uB) : ImpT W (tOr tA tB') (uOr uA uB) := fun {sg dl L H S T K X Q} he hs h hq hx =>
  ha he hs h (fun c L1 H1 S1 l1 s1 h1 => by
    cases c with
    | true => exact hq true L1 H1 S1 l1 s1 h1
    | false => exact hb (he.le l1) s1 h1 (hq.le l1) (hx.le l1)) hx
theorem dw_and1 [Tabl] (ha : DT X W a tA uA) : DW X W (.BoolOp .And [a] pos) tA uA := ⟨pw_and1 ha.run, ha.imp⟩
theorem dw_or1 [Tabl] (ha : DT X W a tA uA) : DW X W (.BoolOp .Or [a] pos) tA uA := ⟨pw_or1 ha.run, ha.imp⟩
theorem dw_and [Tabl] (ha : DT X W a tA uA) (hb : DW X W (.BoolOp .And (b :: rest) pos) tB' uB) : DW X W (.BoolOp .And (a :: b :: rest) pos) (tAnd tA tB') (uAnd uA uB) := ⟨pw_and ha.run hb.run, imp_and ha.imp hb.imp⟩
theorem dw_or [Tabl] (ha : DT X W a tA uA) (hb : DW X W (.BoolOp .Or (b :: rest) pos) tB' uB) : DW X W (.BoolOp .Or (a :: b :: rest) pos) (tOr tA tB') (uOr uA uB) := ⟨pw_or ha.run hb.run, imp_or ha.imp hb.imp⟩
theorem dt_not [Tabl] (ha : DT X W a tA uA) : DT X W (.UnaryOp .Not a pos) (tNot tA) (uNot uA) := ⟨pt_not ha.run, fun {sg dl L H S T K X' Q} he hs h hq hx => ha.imp he hs h (fun c L1 H1 S1 l1 s1 h1 => hq (!c) L1 H1 S1 l1 s1 h1) hx⟩
theorem de_if [Tabl] (hc : DT X W c tA uA) (ha : DE X W a ta ua) (hb : DE X W b tb ub) : DE X W (.IfExp c a b pos) (tIf tA ta tb) (uIf uA ua ub) := ⟨pe_ifExp hc.run ha.run hb.run, fun {sg dl L H S T K X' Q} he hs h hq hx =>
  hc.imp he hs h (fun k L1 H1 S1 l1 s1 h1 => by
    cases k with
    | true => exact ha.imp (he.le l1) s1 h1 (hq.le l1) (hx.le l1)
    | false => exact hb.imp (he.le l1) s1 h1 (hq.le l1) (hx.le l1)) hx⟩
end
end DL
/-! DL3: statements over data. -/
namespace DL
open PySem L2
structure DEnds where
  nx : Env' → Store → Prop
  rt : Dat → Store → Prop
  bk : Env' → Store → Prop := fun _ _ => False
  ct : Env' → Store → Prop := fun _ _ => False
  ex : Exc → Env' → Store → Prop := fun _ _ _ => False
abbrev US := DEnds → Env' → Store → Prop
/-- what the end of a statement over values must bear -/
def NOk [Tabl] (n : Nat) (L : LL) (T : List (Addr × HO)) (K : Env' → Store → Prop) (Q : St → Hp → Prop) : Prop := ∀ sg dl L' H' S', Lle L L' → sg.length = n → EnvIn sg dl L' → SR H' L' S' T → K dl S' → Q sg H'
def WOk [Tabl] (n : Nat) (W : WX) (L : LL) (T : List (Addr × HO)) (X : Exc → Env' → Store → Prop) : Prop := ∀ e dd sg dl L' H' S', Lle L L' → sg.length = n → EnvIn sg dl L' → L' (.ref dd) (.xd e.ns e.xs) → SR H' L' S' T → X e dl S' → W (.ref e.C) (some dd) sg H'
theorem NOk.le [Tabl] {n : Nat} {L L' : LL} {T : List (Addr × HO)} {K : Env' → Store → Prop} {Q : St → Hp → Prop} (x : NOk n L T K Q) (l : Lle L L') : NOk n L' T K Q := fun sg dl L2 H' S' h => x sg dl L2 H' S' (l.trans h)
theorem WOk.le [Tabl] {n : Nat} {W : WX} {L L' : LL} {T : List (Addr × HO)} {X : Exc → Env' → Store → Prop} (x : WOk n W L T X) (l : Lle L L') : WOk n W L' T X := fun e dd sg dl L2 H' S' h => x e dd sg dl L2 H' S' (l.trans h)
theorem WOk.x [Tabl] {n : Nat} {W : WX} {L : LL} {T : List (Addr × HO)} {X : Exc → Env' → Store → Prop} (x : WOk n W L T X) {sg : St} {dl : Env'} (hl : sg.length = n) (he : EnvIn sg dl L) : XOk W sg L T (fun e S => X e dl S) :=
  fun e dd L' H' S' h1 h2 h3 h4 => x e dd sg dl L' H' S' h1 hl (he.le h1) h2 h3 h4
structure SOk [Tabl] (n : Nat) (W : WX) (L : LL) (T : List (Addr × HO)) (D : DEnds) (D' : Ends) : Prop where
  nx : NOk n L T D.nx D'.nx
  rt : EOk L T D.rt D'.rt
  bk : NOk n L T D.bk D'.bk
  ct : NOk n L T D.ct D'.ct
  ex : WOk n W L T D.ex
theorem SOk.le [Tabl] {n : Nat} {W : WX} {L L' : LL} {T : List (Addr × HO)} {D : DEnds} {D' : Ends} (x : SOk n W L T D D') (l : Lle L L') : SOk n W L' T D D' := ⟨x.nx.le l, x.rt.le l, x.bk.le l, x.ct.le l, x.ex.le l⟩
def ImpS [Tabl] (W : WX) (t : TS) (u : US) : Prop := ∀ {sg dl L H S T D D'}, EnvIn sg dl L → SR H L S T → u D dl S → SOk sg.length W L T D D' → t D' sg H
structure DS [Tabl] (X : Cx) (W : WX) (s : Stmt) (t : TS) (u : US) : Prop where
  run : PS X s t
  imp : ImpS W t u
structure DSs [Tabl] (X : Cx) (W : WX) (s : List Stmt) (t : TS) (u : US) : Prop where
  run : PSs X s t
  imp : ImpS W t u
/-- targets -/
abbrev UG := Dat → Env' → Store → (Env' → Store → Prop) → KX → Prop
def GOk [Tabl] (sg : St) (ts : List Nat) (L : LL) (T : List (Addr × HO)) (K : Env' → Store → Prop) (Q : St → Hp → Prop) : Prop := ∀ sg' dl L' H' S', Lle L L' → sg'.length = sg.length → (∀ vs : List Nat, (∀ i ∈ ts, i ∈ vs) → wipe sg' vs = wipe sg vs) → EnvIn sg' dl L' → SR H' L' S' T → K dl S' → Q sg' H'
theorem NOk.g [Tabl] {n : Nat} {sg : St} {ts : List Nat} {L : LL} {T : List (Addr × HO)} {K : Env' → Store → Prop} {Q : St → Hp → Prop} (x : NOk n L T K Q) (h : sg.length = n) : GOk sg ts L T K Q := fun sg' dl L' H' S' l hl _ he hs hk => x sg' dl L' H' S' l (hl.trans h) he hs hk
/-- ts: the slots that the target stores into -/
def ImpG [Tabl] (W : WX) (t : TG) (u : UG) (ts : List Nat) : Prop := ∀ {sg dl L H S T v d K X Q}, EnvIn sg dl L → SR H L S T → L v d → u d dl S K X → GOk sg ts L T K Q → XOk W sg L T X → t v sg H Q
structure DG [Tabl] (X : Cx) (W : WX) (e : Expr) (t : TG) (u : UG) (ts : List Nat) : Prop where
  run : PG X e t
  imp : ImpG W t u ts
theorem wipe_set {sg : St} {i : Nat} {v : Option V} : ∀ {vs : List Nat}, i ∈ vs → wipe (sg.set i v) vs = wipe sg vs
  | j :: vs, h => by
    unfold wipe
    by_cases e : i ∈ vs
    · rw [wipe_set e]
    · have ej : i = j := by
        rcases List.mem_cons.mp h with q | q
        · exact q
        · exact absurd q e
      subst ej
      have key : ∀ us : List Nat, i ∉ us → wipe (sg.set i v) us = (wipe sg us).set i v := fun us => by
        induction us with
        | nil => intro _; rfl
        | cons k us ih =>
          intro hk
          unfold wipe
          have hne : i ≠ k := fun z => hk (z ▸ List.mem_cons_self)
          rw [ih fun z => hk (List.mem_cons_of_mem _ z), List.set_comm _ _ hne]
      rw [key vs e, List.set_set]
def uSeq (a b : US) : US := fun D dl S => a { D with nx := b D } dl S
/-- the rest is shown once, from a word between -/
def uCut (a b : US) : US := fun D dl S => ∃ M : Env' → Store → Prop, a { D with nx := M } dl S ∧ ∀ dl' S', M dl' S' → b D dl' S'
def uNext : US := fun D dl S => D.nx dl S
def uBreak : US := fun D dl S => D.bk dl S
def uCont : US := fun D dl S => D.ct dl S
def uDrop (ue : UE) : US := fun D dl S => ue dl S (fun _ S1 => D.nx dl S1) (fun e S1 => D.ex e dl S1)
def uRet (ue : UE) : US := fun D dl S => ue dl S (fun d S1 => D.rt d S1) (fun e S1 => D.ex e dl S1)
def uRetN : US := fun D _ S => D.rt .non S
def uIfS (c : UT) (a b : US) : US := fun D dl S => c dl S (fun k S1 => if k = true then a D dl S1 else b D dl S1) (fun e S1 => D.ex e dl S1)
def uName (i : Nat) : UG := fun d dl S K _ => i < dl.length ∧ K (dl.set i (some d)) S
def uSet (i : Nat) (ue : UE) : US := fun D dl S => ue dl S (fun d S1 => i < dl.length ∧ D.nx (dl.set i (some d)) S1) (fun e S1 => D.ex e dl S1)
def uAsg (ue : UE) (g : UG) : US := fun D dl S => ue dl S (fun d S1 => g d dl S1 D.nx (fun e S1 => D.ex e dl S1)) (fun e S1 => D.ex e dl S1)
def uPar (i j : Nat) (ua : UA) : US := fun D dl S => ua dl S (fun ds S1 => match ds with
  | [a, b] => i < dl.length ∧ j < dl.length ∧ D.nx ((dl.set i (some a)).set j (some b)) S1
  | _ => False) (fun e S1 => D.ex e dl S1)
section
variable {X : Cx} {W : WX} {s : Stmt} {ss : List Stmt} {t t' : TS} {u u' : US} {e : Expr} {te : TE} {ue : UE} {pos : Pos}
theorem EnvIn.set {sg : St} {dl : Env'} {L : LL} (he : EnvIn sg dl L) {i : Nat} {v : V} {d : Dat} (hi : i < dl.length) (h : L v d) : EnvIn (sg.set i (some v)) (dl.set i (some d)) L := by
  refine ⟨by rw [List.length_set, List.length_set]; exact he.1, fun k c hk => ?_⟩
  by_cases e : k = i
  · subst e
    rw [List.getElem?_set_self hi] at hk
    injection hk with hk
    injection hk with hk
    subst hk
    exact ⟨v, by rw [List.getElem?_set_self (by rw [he.1]; exact hi)], h⟩
  · rw [List.getElem?_set_ne (Ne.symm e)] at hk
    obtain ⟨w, h1, h2⟩ := he.2 k c hk
    exact ⟨w, by rw [List.getElem?_set_ne (Ne.symm e)]; exact h1, h2⟩
theorem dss_nil [Tabl] : DSs X W [] tNext uNext := ⟨pss_nil, fun {sg dl L H S T D D'} he hs h hk => hk.nx sg dl L H S (.refl L) rfl he hs h⟩
theorem imp_seq [Tabl] (h1 : ImpS W t u) (h2 : ImpS W t' u') : ImpS W (tSeq t t') (uSeq u u') := fun {sg dl L H S T D D'} he hs h hk =>
  h1 (D := { D with nx := u' D }) (D' := { D' with nx := t' D' }) he hs h ⟨fun sg' dl' L' H' S' l hl he' hs' h' => h2 he' hs' h' (by rw [hl]; exact hk.le l), hk.rt, hk.bk, hk.ct, hk.ex⟩
theorem dss_cons [Tabl] (h1 : DS X W s t u) (h2 : DSs X W ss t' u') : DSs X W (s :: ss) (tSeq t t') (uSeq u u') := ⟨pss_cons h1.run h2.run, imp_seq h1.imp h2.imp⟩
theorem dss_one [Tabl] (h1 : DS X W s t u) : DSs X W [s] t u := ⟨pss_one h1.run, h1.imp⟩
theorem dss_cut [Tabl] (h1 : DS X W s t u) (h2 : DSs X W ss t' u') : DSs X W (s :: ss) (tSeq t t') (uCut u u') := ⟨pss_cons h1.run h2.run, fun {sg dl L H S T D D'} he hs h hk => by
  obtain ⟨M, hm, hu⟩ := h
  exact h1.imp (D := { D with nx := M }) (D' := { D' with nx := t' D' }) he hs hm ⟨fun sg' dl' L' H' S' l hl he' hs' h' => h2.imp he' hs' (hu dl' S' h') (by rw [hl]; exact hk.le l), hk.rt, hk.bk, hk.ct, hk.ex⟩⟩
theorem ds_pass [Tabl] : DS X W (.Pass pos) tNext uNext := ⟨ps_pass, fun {sg dl L H S T D D'} he hs h hk => hk.nx sg dl L H S (.refl L) rfl he hs h⟩
theorem ds_break [Tabl] : DS X W (.Break pos) tBreak uBreak := ⟨ps_break, fun {sg dl L H S T D D'} he hs h hk => hk.bk sg dl L H S (.refl L) rfl he hs h⟩
theorem ds_cont [Tabl] : DS X W (.Continue pos) tCont uCont := ⟨ps_continue, fun {sg dl L H S T D D'} he hs h hk => hk.ct sg dl L H S (.refl L) rfl he hs h⟩
theorem ds_expr [Tabl] (h : DE X W e te ue) (hs : swapsWith e none pos.line X.env = pure false := by rfl) : DS X W (.Expr e pos) (tDrop te) (uDrop ue) := ⟨ps_expr h.run hs, fun {sg dl L H S T D D'} he hs h' hk =>
  h.imp he hs h' (fun v d L1 H1 S1 l1 p1 s1 h1 => hk.nx sg dl L1 H1 S1 l1 rfl (he.le l1) s1 h1) (hk.ex.x rfl he)⟩
theorem ds_ret [Tabl] (h : DE X W e te ue) : DS X W (.Return (some e) pos) (tRet te) (uRet ue) := ⟨ps_ret h.run, fun {sg dl L H S T D D'} he hs h' hk => h.imp he hs h' hk.rt (hk.ex.x rfl he)⟩
theorem ds_retN [Tabl] : DS X W (.Return none pos) tRetN uRetN := ⟨ps_retN, fun {sg dl L H S T D D'} he hs h' hk => hk.rt .non .non (Ladd L .non .non) H S Ladd.le Ladd.here (hs.flat rfl) h'⟩
theorem ds_if [Tabl] {c : Expr} {a b : List Stmt} {tc : TT} {uc : UT} {ta tb : TS} {ua ub : US} (hc : DT X W c tc uc) (ha : DSs X W a ta ua) (hb : DSs X W b tb ub) : DS X W (.If c a b pos) (tIfS tc ta tb) (uIfS uc ua ub) := ⟨ps_if hc.run ha.run hb.run, fun {sg dl L H S T D D'} he hs h' hk =>
  hc.imp he hs h' (fun k L1 H1 S1 l1 s1 h1 => by
    cases k with
    | true => exact ha.imp (he.le l1) s1 h1 (hk.le l1)
    | false => exact hb.imp (he.le l1) s1 h1 (hk.le l1)) (hk.ex.x rfl he)⟩
theorem dg_name [Tabl] {i : Nat} {x : Str} (hN : X.N.Nodup) (hi : X.N[i]? = some x := by rfl) (hx : Loc X.env.scope x := by first | exact Or.inl rfl | exact Or.inr rfl) (hf : X.fn x = true ∨ X.env.scope.names.lookup x = some .local := by first | exact .inl rfl | exact .inr rfl | assumption) : DG X W (.Name x pos) (gName i) (uName i) [i] :=
  ⟨pg_name hN hi hx hf, fun {sg dl L H S T v d K X' Q} he hs hp h hk _ => hk (sg.set i (some v)) (dl.set i (some d)) L H S (.refl L) (List.length_set ..) (fun vs hv => wipe_set (hv i List.mem_cons_self)) (he.set h.1 hp) hs h.2⟩
theorem ds_asg [Tabl] {tg : Expr} {g : TG} {ug : UG} {ts : List Nat} (h : DE X W e te ue) (hg : DG X W tg g ug ts) (hs : swapsWithSole [tg] e pos.line X.env = pure false := by rfl) (hw : swappedStores [tg] e X.env = pure none := by rfl)
    (h1 : (assignEach [tg] X.env).map (·.2) = [assign tg X.env] := by rfl) : DS X W (.Assign [tg] e pos) (tAsg te g) (uAsg ue ug) := ⟨ps_asg h.run hg.run hs hw h1, fun {sg dl L H S T D D'} he hs h' hk =>
  h.imp he hs h' (fun v d L1 H1 S1 l1 p1 s1 h1 => hg.imp (he.le l1) s1 p1 h1 ((hk.nx.le l1).g rfl) ((hk.ex.x rfl he).le l1)) (hk.ex.x rfl he)⟩
theorem ds_set [Tabl] {i : Nat} {x : Str} {p : Pos} (hN : X.N.Nodup) (h : DE X W e te ue) (hi : X.N[i]? = some x := by rfl) (hx : Loc X.env.scope x := by first | exact Or.inl rfl | exact Or.inr rfl) (hf : X.fn x = true ∨ X.env.scope.names.lookup x = some .local := by first | exact .inl rfl | exact .inr rfl | assumption)
    (hs : swapsWithSole [.Name x p] e pos.line X.env = pure false := by rfl) (hw : swappedStores [.Name x p] e X.env = pure none := by rfl)
    (h1 : (assignEach [.Name x p] X.env).map (·.2) = [assign (.Name x p) X.env] := by rfl) : DS X W (.Assign [.Name x p] e pos) (tAsg te (gName i)) (uSet i ue) := ⟨ps_asg h.run (pg_name hN hi hx hf) hs hw h1, fun {sg dl L H S T D D'} he hs h' hk =>
  h.imp he hs h' (fun v d L1 H1 S1 l1 p1 s1 h1 => hk.nx (sg.set i (some v)) (dl.set i (some d)) L1 H1 S1 l1 (List.length_set ..) ((he.le l1).set h1.1 p1) s1 h1.2) (hk.ex.x rfl he)⟩
theorem ds_par [Tabl] {i j : Nat} {x y : Str} {a b : Expr} {ta : TA} {ua : UA} {px py pt : Pos} {kt k2 pt2} (hc : X.calm = true) (hN : X.N.Nodup) (ha : DA X W [a, b] ta ua) (hi : X.N[i]? = some x := by rfl) (hj : X.N[j]? = some y := by rfl) (hij : i ≠ j := by decide)
    (hx : X.env.scope.names.lookup x = some .local := by rfl) (hy : X.env.scope.names.lookup y = some .local := by rfl)
    (hw : swappedStores [.Tuple [.Name x px, .Name y py] kt pt] (.Tuple [a, b] k2 pt2) X.env = pure (some [x, y]) := by rfl)
    (hs : swapsWithSole [.Tuple [.Name x px, .Name y py] kt pt] (.Tuple [a, b] k2 pt2) pos.line X.env = pure false := by rfl) :
    DS X W (.Assign [.Tuple [.Name x px, .Name y py] kt pt] (.Tuple [a, b] k2 pt2) pos) (tPar i j ta) (uPar i j ua) := ⟨ps_par hc hN hi hj hij hx hy ha.run hw hs, fun {sg dl L H S T D D'} he hs h' hk =>
  ha.imp he hs h' (fun vs ds L1 H1 S1 l1 p1 s1 h1 => by
    match vs, ds, p1, h1 with
    | [v, w], [c, d], p1, h1 =>
      refine ⟨v, w, rfl, hk.nx _ _ L1 H1 S1 l1 (by rw [List.length_set, List.length_set]) (((he.le l1).set h1.1 p1.1).set (by rw [List.length_set]; exact h1.2.1) p1.2.1) s1 h1.2.2⟩
    | [], [], _, h1 => exact h1.elim
    | [_], [_], _, h1 => exact h1.elim
    | _ :: _ :: _ :: _, _ :: _ :: _ :: _, _, h1 => exact h1.elim
    | [], _ :: _, p1, _ => exact p1.elim
    | _ :: _, [], p1, _ => exact p1.elim
    | [_], _ :: _ :: _, p1, _ => exact p1.2.elim
    | _ :: _ :: _, [_], p1, _ => exact p1.2.elim
    | [_, _], _ :: _ :: _ :: _, p1, _ => exact p1.2.2.elim
    | _ :: _ :: _ :: _, [_, _], p1, _ => exact p1.2.2.elim) (hk.ex.x rfl he)⟩
/-! what is no longer wanted may be dropped -/
structure Gc (N : Nat) (dl : Env') (S : Store) (dl2 : Env') (S2 : Store) : Prop where
  pre : ∃ R, S = S2 ++ R
  enough : N ≤ S2.length
  bel : belows S2.length S2
  slots : dl2.length = dl.length ∧ ∀ (i : Nat) d, dl2[i]? = some (some d) → dl[i]? = some (some d) ∧ below S2.length d
def GcTo (N : Nat) (J : Env' → Store → Prop) : Env' → Store → Prop := fun dl S => J dl S ∨ ∃ dl2 S2, Gc N dl S dl2 S2 ∧ J dl2 S2
theorem belows_mem {n : Nat} : ∀ {ds : List Dat} {d : Dat}, belows n ds → d ∈ ds → below n d
  | c :: ds, d, h, m => by
    simp only [belows] at h
    rcases List.mem_cons.mp m with e | e
    · subst e; exact h.1
    · exact belows_mem h.2 e
theorem kids_below {n : Nat} {d : Dat} (h : below n d) : belows n (kids d) := by
  cases d with
  | lst xs => simp only [below] at h; exact h
  | tup xs => simp only [below] at h; exact h
  | dct ks xs => simp only [below] at h; exact h
  | dtt ks xs => simp only [below] at h; exact h
  | ins C ns xs => simp only [below] at h; exact h
  | xd ns xs => simp only [below] at h; exact h
  | _ => simp only [kids, belows]
theorem Node.trim {H : Hp} {R R' rho : List Addr} {n : Nat} {a : Addr} {d : Dat} (hR : ∀ a, a ∈ R' → a ∈ R) (h : Node H R rho a d) (b : below n d) : Node H R' (rho.take n) a d := by
  cases d with
  | lst xs => obtain ⟨vs, e, r⟩ := h; simp only [below] at b; exact ⟨vs, e, RDs.trim hR r b⟩
  | dct ks xs => obtain ⟨vs, e, l, r⟩ := h; simp only [below] at b; exact ⟨vs, e, l, RDs.trim hR r b⟩
  | dtt ks xs => obtain ⟨vs, e, l, r⟩ := h; simp only [below] at b; exact ⟨vs, e, l, RDs.trim hR r b⟩
  | ins C ns xs => obtain ⟨dx, vs, e, l, r⟩ := h; simp only [below] at b; exact ⟨dx, vs, e, l, RDs.trim hR r b⟩
  | _ => exact h.elim
/-- the cells from n on are dropped; pairs that lie below stay -/
theorem SRx.cutAt [Tabl] {H : Hp} {L L2 : LL} {S2 R : Store} {T : List (Addr × HO)} {rho : List Addr} (s : SRx H L (S2 ++ R) T rho) (hb : belows S2.length S2)
    (hL : ∀ v d, L2 v d → RD H (rho.take S2.length ++ T.map (·.1)) (rho.take S2.length) d v) (hO : ∀ v d, Tabl.own v d → DL.below S2.length d) : SRx H L2 S2 T (rho.take S2.length) := by
  have hle : S2.length ≤ rho.length := by rw [s.len, List.length_append]; omega
  have hsub : ∀ a, a ∈ rho.take S2.length ++ T.map (·.1) → a ∈ rho ++ T.map (·.1) := fun a h => by
    rcases List.mem_append.mp h with h | h
    · exact List.mem_append_left _ (List.mem_of_mem_take h)
    · exact List.mem_append_right _ h
  refine ⟨by rw [List.length_take]; omega, ?_, fun n a d h1 h2 => ?_, s.pin, hL, s.tab, s.cel, fun v d h => RD.trim hsub (s.own v d h) (hO v d h), s.ntb⟩
  · refine List.Nodup.sublist (List.Sublist.append (List.take_sublist _ _) (List.Sublist.refl _)) s.nd
  · have hn : n < S2.length := (List.getElem?_eq_some_iff.mp h2).1
    rw [List.getElem?_take, if_pos hn] at h1
    have h3 : (S2 ++ R)[n]? = some d := by rw [List.getElem?_append_left hn]; exact h2
    exact (s.node n a d h1 h3).trim hsub (belows_mem hb (List.mem_of_getElem? h2))
theorem SR.below [Tabl] {H : Hp} {L : LL} {S : Store} {T : List (Addr × HO)} (s : SR H L S T) {v : V} {d : Dat} (h : L v d) : below S.length d := by
  obtain ⟨rho, x⟩ := s
  rw [← x.len]
  exact (x.rd v d h).below
mutual
theorem below.mono {n m : Nat} (h : n ≤ m) : ∀ {d : Dat}, below n d → below m d
  | .non, _ => by simp only [DL.below]
  | .bl _, _ => by simp only [DL.below]
  | .int _, _ => by simp only [DL.below]
  | .str _, _ => by simp only [DL.below]
  | .raw _, _ => by simp only [DL.below]
  | .lst xs, b => by simp only [DL.below] at b ⊢; exact belows.mono h b
  | .tup xs, b => by simp only [DL.below] at b ⊢; exact belows.mono h b
  | .dct ks xs, b => by simp only [DL.below] at b ⊢; exact belows.mono h b
  | .dtt ks xs, b => by simp only [DL.below] at b ⊢; exact belows.mono h b
  | .sq _ _, _ => by simp only [DL.below]
  | .ins C ns xs, b => by simp only [DL.below] at b ⊢; exact belows.mono h b
  | .xd ns xs, b => by simp only [DL.below] at b ⊢; exact belows.mono h b
  | .cell k, b => by simp only [DL.below] at b ⊢; omega
  | .fn _ _, _ => by simp only [DL.below]
  | .exv _ _ _ xs, b => by simp only [DL.below] at b ⊢; exact belows.mono h b
theorem belows.mono {n m : Nat} (h : n ≤ m) : ∀ {ds : List Dat}, belows n ds → belows m ds
  | [], _ => by simp only [DL.belows]
  | d :: ds, b => by simp only [DL.belows] at b ⊢; exact ⟨below.mono h b.1, belows.mono h b.2⟩
end
theorem SR.ownB [Tabl] {H : Hp} {L : LL} {S : Store} {T : List (Addr × HO)} (s : SR H L S T) : ∀ v d, Tabl.own v d → DL.below S.length d := fun v d h => by
  obtain ⟨rho, x⟩ := s
  rw [← x.len]
  exact (x.own v d h).below
theorem Gc.go [Tabl] {N : Nat} {sg : St} {dl dl2 : Env'} {S S2 : Store} {H : Hp} {L L' : LL} {T : List (Addr × HO)} (g : Gc N dl S dl2 S2) (hN : ∀ v d, L v d → DL.below N d) (hW : ∀ v d, Tabl.own v d → DL.below N d) (l : Lle L L') (he : EnvIn sg dl L') (hs : SR H L' S T) :
    ∃ L2, Lle L L2 ∧ EnvIn sg dl2 L2 ∧ SR H L2 S2 T := by
  obtain ⟨⟨R, rfl⟩, hn, hb, hsl⟩ := g
  obtain ⟨rho, x⟩ := hs
  have hsub : ∀ a, a ∈ rho.take S2.length ++ T.map (·.1) → a ∈ rho ++ T.map (·.1) := fun a h => by
    rcases List.mem_append.mp h with h | h
    · exact List.mem_append_left _ (List.mem_of_mem_take h)
    · exact List.mem_append_right _ h
  refine ⟨fun v d => L v d ∨ (L' v d ∧ ∃ i : Nat, sg[i]? = some (some v) ∧ dl2[i]? = some (some d)), fun v d h => .inl h, ⟨by rw [he.1, hsl.1], fun i d h => ?_⟩, _, x.cutAt hb (fun v d h => ?_) fun v d h => (hW v d h).mono hn⟩
  · obtain ⟨h1, h2⟩ := hsl.2 i d h
    obtain ⟨v, h3, h4⟩ := he.2 i d h1
    exact ⟨v, h3, .inr ⟨h4, i, h3, h⟩⟩
  · rcases h with h | ⟨h, i, h1, h2⟩
    · exact RD.trim hsub (x.rd v d (l v d h)) ((hN v d h).mono hn)
    · exact RD.trim hsub (x.rd v d h) (hsl.2 i d h2).2
theorem NOk.gc [Tabl] {n N : Nat} {L : LL} {T : List (Addr × HO)} {J : Env' → Store → Prop} {Q : St → Hp → Prop} (hN : ∀ v d, L v d → DL.below N d) (hW : ∀ v d, Tabl.own v d → DL.below N d) (x : NOk n L T J Q) : NOk n L T (GcTo N J) Q := fun sg dl L' H' S' l hl he hs h => by
  rcases h with h | ⟨dl2, S2, g, h⟩
  · exact x sg dl L' H' S' l hl he hs h
  · obtain ⟨L2, l2, he2, hs2⟩ := g.go hN hW l he hs
    exact x sg dl2 L2 H' S2 l2 hl he2 hs2 h
/-- a word between, with what is no longer wanted dropped -/
def uCutG (a b : US) : US := fun D dl S => ∃ M : Env' → Store → Prop, a { D with nx := GcTo S.length M } dl S ∧ ∀ dl' S', M dl' S' → b D dl' S'
theorem dss_cutG [Tabl] (h1 : DS X W s t u) (h2 : DSs X W ss t' u') : DSs X W (s :: ss) (tSeq t t') (uCutG u u') := ⟨pss_cons h1.run h2.run, fun {sg dl L H S T D D'} he hs h hk => by
  obtain ⟨M, hm, hu⟩ := h
  exact h1.imp (D := { D with nx := GcTo S.length M }) (D' := { D' with nx := t' D' }) he hs hm ⟨NOk.gc (fun v d h => hs.below h) hs.ownB fun sg' dl' L' H' S' l hl he' hs' h' => h2.imp he' hs' (hu dl' S' h') (by rw [hl]; exact hk.le l), hk.rt, hk.bk, hk.ct, hk.ex⟩⟩
/-! while -/
def uWhile (c : UT) (b : US) : US := fun D dl S => ∃ I : Nat → Env' → Store → Prop, (∃ m, I m dl S) ∧ ∀ m dl1 S1, I m dl1 S1 →
  c dl1 S1 (fun k S2 => if k = true then b { D with nx := GcTo S.length fun dl' S' => ∃ m', m' < m ∧ I m' dl' S', ct := GcTo S.length fun dl' S' => ∃ m', m' < m ∧ I m' dl' S', bk := D.nx } dl1 S2 else D.nx dl1 S2) (fun e S2 => D.ex e dl1 S2)
theorem ds_while [Tabl] {c : Expr} {body : List Stmt} {tc : TT} {uc : UT} {tb : TS} {ub : US} (hp : PassesOwn (model X.prog X.w) X.A X.env X.xe) (hc : DT X W c tc uc) (hb : DSs X W body tb ub) : DS X W (.While c body [] pos) (tWhile tc tb) (uWhile uc ub) :=
  ⟨ps_while hp hc.run hb.run, fun {sg dl L H S T D D'} he hs h hk => by
    obtain ⟨I, ⟨m0, h0⟩, hI⟩ := h
    refine ⟨fun m sg1 H1 => ∃ dl1 L1 S1, Lle L L1 ∧ sg1.length = sg.length ∧ EnvIn sg1 dl1 L1 ∧ SR H1 L1 S1 T ∧ I m dl1 S1, ⟨m0, dl, L, S, .refl L, rfl, he, hs, h0⟩, ?_⟩
    rintro m sg1 H1 ⟨dl1, L1, S1, l1, hl1, he1, hs1, hi⟩
    have hk1 := hk.le l1
    rw [← hl1] at hk1
    refine hc.imp he1 hs1 (hI m dl1 S1 hi) (fun k L2 H2 S2 l2 s2 h2 => ?_) (hk1.ex.x rfl he1)
    cases k with
    | true =>
      refine ⟨fun sg2 H2 => ∃ m', m' < m ∧ ∃ dl1 L1 S1, Lle L L1 ∧ sg2.length = sg.length ∧ EnvIn sg2 dl1 L1 ∧ SR H2 L1 S1 T ∧ I m' dl1 S1, fun sg2 H2 h => h, ?_⟩
      have hn : NOk sg1.length L T (GcTo S.length fun dl' S' => ∃ m', m' < m ∧ I m' dl' S') (fun sg2 H2 => ∃ m', m' < m ∧ ∃ dl1 L1 S1, Lle L L1 ∧ sg2.length = sg.length ∧ EnvIn sg2 dl1 L1 ∧ SR H2 L1 S1 T ∧ I m' dl1 S1) :=
        NOk.gc (fun v d h => hs.below h) hs.ownB fun sg' dl' L' H' S' l hl he' hs' ⟨m', hm, h'⟩ => ⟨m', hm, dl', L', S', l, hl.trans hl1, he', hs', h'⟩
      exact hb.imp (D := { D with nx := _, ct := _, bk := D.nx }) (he1.le l2) s2 h2 ⟨hn.le (l1.trans l2), hk1.rt.le l2, hk1.nx.le l2, hn.le (l1.trans l2), hk1.ex.le l2⟩
    | false => exact hk1.nx sg1 dl1 L2 H2 S2 l2 rfl (he1.le l2) s2 h2⟩
/-! for: what is walked is known ahead -/
structure ItI [Tabl] (J : It) (ds : List Dat) (L0 : LL) (P : Store → Prop) : Prop where
  go : ∀ (i : Nat) H L S T, Lle L0 L → SR H L S T → P S → i < ds.length → J.go i H
  yld : ∀ (i : Nat) H L S T x H' d, Lle L0 L → SR H L S T → P S → ds[i]? = some d → J.yld i H x H' → ∃ L', Lle L L' ∧ L' x d ∧ SR H' L' S T
  stop : ∀ (i : Nat) H L S T, Lle L0 L → SR H L S T → P S → i = ds.length → J.stop i H
abbrev UI := Env' → Store → (List Dat → (Store → Prop) → Store → Prop) → KX → Prop
def ImpI [Tabl] (W : WX) (t : TI) (u : UI) : Prop := ∀ {sg dl L H S T R X Q}, EnvIn sg dl L → SR H L S T → u dl S R X → (∀ J ds P L1 H1 S1, Lle L L1 → SR H1 L1 S1 T → ItI J ds L1 P → R ds P S1 → Q J H1) → XOk W sg L T X → t sg H Q
structure DI [Tabl] (X : Cx) (W : WX) (tg e : Expr) (t : TI) (u : UI) : Prop where
  run : PI X tg e t
  imp : ImpI W t u
def uFor (i : UI) (g : UG) (b : US) : US := fun D dl S => i dl S (fun ds P S1 => ∃ I : Nat → Env' → Store → Prop, I 0 dl S1 ∧
  (∀ (i : Nat) d dl1 S2, ds[i]? = some d → I i dl1 S2 → P S2 ∧ g d dl1 S2 (fun dl2 S3 => b { D with nx := GcTo S1.length (I (i + 1)), ct := GcTo S1.length (I (i + 1)), bk := D.nx } dl2 S3) (fun e S3 => D.ex e dl1 S3)) ∧
  ∀ dl1 S2, I ds.length dl1 S2 → P S2 ∧ D.nx dl1 S2) (fun e S1 => D.ex e dl S1)
theorem ds_for [Tabl] {tg iter : Expr} {body : List Stmt} {wi : TI} {ui : UI} {g : TG} {ug : UG} {ts : List Nat} {tb : TS} {ub : US} (hp : PassesOwn (model X.prog X.w) X.A X.env X.xe) (hc : X.calm = true) (hi : DI X W tg iter wi ui) (hg : DG X W tg g ug ts) (hb : DSs X W body tb ub)
    (hq : ∀ x, foldedSetIterable iter X.env x = pure x := by intro _; rfl) : DS X W (.For tg iter body [] pos) (tFor wi g tb) (uFor ui ug ub) :=
  ⟨ps_for hp hc hi.run hg.run hb.run hq, fun {sg dl L H S T D D'} he hs h hk => by
    refine hi.imp he hs h (fun J ds P L1 H1 S1 l1 s1 hJ h1 => ?_) (hk.ex.x rfl he)
    obtain ⟨I, h0, hI, hd⟩ := h1
    refine ⟨fun i m sg2 H2 => m = ds.length - i ∧ i ≤ ds.length ∧ ∃ dl2 L2 S2, Lle L1 L2 ∧ sg2.length = sg.length ∧ EnvIn sg2 dl2 L2 ∧ SR H2 L2 S2 T ∧ I i dl2 S2, ⟨_, rfl, Nat.zero_le _, dl, L1, S1, .refl _, rfl, he.le l1, s1, h0⟩, ?_⟩
    rintro i m sg2 H2 ⟨rfl, hi2, dl2, L2, S2, l2, hl2, he2, s2, h2⟩
    have hk2 := hk.le (l1.trans l2)
    rw [← hl2] at hk2
    by_cases hlt : i < ds.length
    · obtain ⟨hP, hb2⟩ := hI i ds[i] dl2 S2 (List.getElem?_eq_getElem hlt) h2
      refine .inr ⟨hJ.go i H2 L2 S2 T l2 s2 hP hlt, fun sg' H' => ∃ m', m' < ds.length - i ∧ m' = ds.length - (i + 1) ∧ i + 1 ≤ ds.length ∧ ∃ dl2 L2 S2, Lle L1 L2 ∧ sg'.length = sg.length ∧ EnvIn sg' dl2 L2 ∧ SR H' L2 S2 T ∧ I (i + 1) dl2 S2, fun sg' H' h => h, fun x H' hy => ?_⟩
      obtain ⟨L3, l3, p3, s3⟩ := hJ.yld i H2 L2 S2 T x H' ds[i] l2 s2 hP (List.getElem?_eq_getElem hlt) hy
      refine hg.imp (he2.le l3) s3 p3 hb2 (fun sg4 dl4 L4 H4 S4 l4 hl4 _ he4 s4 h4 => ?_) ((hk2.ex.x rfl he2).le l3)
      have hn : NOk sg2.length L1 T (GcTo S1.length (I (i + 1))) (fun sg' H' => ∃ m', m' < ds.length - i ∧ m' = ds.length - (i + 1) ∧ i + 1 ≤ ds.length ∧ ∃ dl2 L2 S2, Lle L1 L2 ∧ sg'.length = sg.length ∧ EnvIn sg' dl2 L2 ∧ SR H' L2 S2 T ∧ I (i + 1) dl2 S2) :=
        NOk.gc (fun v d h => s1.below h) s1.ownB fun sg' dl' L' H' S' l hl he' hs' h' => ⟨_, by omega, rfl, hlt, dl', L', S', l, hl.trans hl2, he', hs', h'⟩
      have hk4 := hk2.le (l3.trans l4)
      rw [← hl4] at hk4 hn
      exact hb.imp (D := { D with nx := _, ct := _, bk := D.nx }) he4 s4 h4 ⟨hn.le ((l2.trans l3).trans l4), hk4.rt, hk4.nx, hn.le ((l2.trans l3).trans l4), hk4.ex⟩
    · have e : i = ds.length := by omega
      subst e
      obtain ⟨hP, hn⟩ := hd dl2 S2 h2
      exact .inl ⟨hJ.stop ds.length H2 L2 S2 T l2 s2 hP rfl, hk2.nx sg2 dl2 L2 H2 S2 (.refl _) rfl he2 s2 hn⟩⟩
end
end DL
/-! DL4: defs, their calls; comprehensions; targets of several. -/
namespace DL
open PySem L2 PyProof.Rows
/-- what a def promises, over data -/
abbrev Spec := List Dat → Store → KE → KX → Prop
def spOf [Tabl] (F : Spec) : Sp := fun vs H Q E => ∃ ds L S T K X, Ls L vs ds ∧ SR H L S T ∧ F ds S K X ∧ EOk L T K Q ∧
  ∀ e dd L' H' S', Lle L L' → L' (.ref dd) (.xd e.ns e.xs) → SR H' L' S' T → X e S' → E (.ref e.C) (some dd) H'
def uCall (F : Spec) (dd : List Dat) (ua : UA) : UE := fun dl S K X => ua dl S (fun ds S1 => F (ds ++ dd) S1 K X) X
def Flats : List Dat → List V → Prop
  | [], [] => True
  | d :: ds, v :: vs => Flat d v ∧ Flats ds vs
  | _, _ => False
section
variable {H : Hp} {L : LL} {S : Store} {T : List (Addr × HO)}
theorem SR.flats [Tabl] (s : SR H L S T) : ∀ {ds : List Dat} {vs : List V}, Flats ds vs → ∃ L', Lle L L' ∧ Ls L' vs ds ∧ SR H L' S T
  | [], [], _ => ⟨L, .refl L, True.intro, s⟩
  | d :: ds, v :: vs, h => by
    obtain ⟨L1, l1, p1, s1⟩ := SR.flats s (ds := ds) (vs := vs) h.2
    exact ⟨Ladd L1 v d, l1.trans Ladd.le, ⟨Ladd.here, p1.le Ladd.le⟩, s1.flat h.1⟩
  | [], _ :: _, h => h.elim
  | _ :: _, [], h => h.elim
end
section
variable {X : Cx} {W : WX} {k : Nat} {f : Addr} {fd : FuncData} {ps : List Str} {F : Spec} {x : Str} {p pos : Pos} {e : Expr} {es : List Expr} {t : TA} {u : UA} {dvs : List V} {dd : List Dat} {dl' : List Value}
theorem de_call [Tabl] (F' : FnOk X.prog X.w X.K X.mg X.base (L2.CX X.prog X.w) k f fd ps (spOf F)) (hr : Room k X.A) (hm : X.mg x = some (.ref f)) (hk : PySem.W.keepIn X.K (.ref f) = true) (hb : Binds X.K fd ps dl') (hd : Vals dvs dl') (hf : Flats dd dvs) (tk : Takes X W)
    (ha : DA X W (e :: es) t u) (hg : Gl X x := by rfl) (hdb : (x == ("__debug__" : Str)) = false := by decide) (he : starEach (e :: es) X.env = (false, eval e X.env) :: starEach es X.env := by rfl) (hpl : (backTo pos (starEach es X.env)).any (·.1) = false := by rfl) :
    DE X W (.Call (.Name x p) (e :: es) [] pos) (tCallSD (spOf F) dvs (WE W) t) (uCall F dd u) :=
  ⟨pe_callSD F' hr hg hm hk hb hd (fun sg => passAt tk sg) ha.run hdb he hpl, fun {sg dl L H S T K X' Q} he hs h hq hx =>
    ha.imp he hs h (fun vs ds L1 H1 S1 l1 p1 s1 h1 => by
      obtain ⟨L2, l2, p2, s2⟩ := s1.flats hf
      exact ⟨ds ++ dd, L2, S1, T, K, X', (p1.le l2).append p2, s2, h1, hq.le (l1.trans l2), fun e dd L' H' S' l => hx e dd L' H' S' ((l1.trans l2).trans l)⟩) hx⟩
theorem de_call0 [Tabl] (F' : FnOk X.prog X.w X.K X.mg X.base (L2.CX X.prog X.w) k f fd ps (spOf F)) (hr : Room k X.A) (hm : X.mg x = some (.ref f)) (hk : PySem.W.keepIn X.K (.ref f) = true) (hb : Binds X.K fd ps dl') (hd : Vals dvs dl') (hf : Flats dd dvs) (hx : Passes (L2.CX X.prog X.w) X E0)
    (hg : Gl X x := by rfl) (hdb : (x == ("__debug__" : Str)) = false := by decide) :
    DE X W (.Call (.Name x p) [] [] pos) (tCall (spOf F) dvs E0 tNil) (fun _ S K _ => F dd S K fun _ _ => False) :=
  ⟨pe_call0 F' hr hg hm hk hb hd hx hdb, fun {sg dl L H S T K X' Q} he hs h hq hx => by
      obtain ⟨L2, l2, p2, s2⟩ := hs.flats hf
      exact ⟨dd, L2, S, T, K, _, p2, s2, h, hq.le l2, fun e dd L' H' S' l _ _ h => h.elim⟩⟩
end
/-! ### the way out of a def -/
/-- d with the places from n on read off -/
inductive Res (n : Nat) (S : Store) : Dat → Dat → Prop where
  | same {d : Dat} : below n d → Res n S d d
  | cell {m : Nat} {d d' : Dat} : n ≤ m → S[m]? = some d → Res n S d d' → Res n S (.cell m) d'
  | lst {xs ys : List Dat} : xs.length = ys.length → (∀ (i : Nat) x y, xs[i]? = some x → ys[i]? = some y → Res n S x y) → Res n S (.lst xs) (.lst ys)
  | tup {xs ys : List Dat} : xs.length = ys.length → (∀ (i : Nat) x y, xs[i]? = some x → ys[i]? = some y → Res n S x y) → Res n S (.tup xs) (.tup ys)
  | dct {ks : List Key} {xs ys : List Dat} : xs.length = ys.length → (∀ (i : Nat) x y, xs[i]? = some x → ys[i]? = some y → Res n S x y) → Res n S (.dct ks xs) (.dct ks ys)
  | dtt {ks : List (List Key)} {xs ys : List Dat} : xs.length = ys.length → (∀ (i : Nat) x y, xs[i]? = some x → ys[i]? = some y → Res n S x y) → Res n S (.dtt ks xs) (.dtt ks ys)
  | ins {C : Addr} {ns : List Str} {xs ys : List Dat} : xs.length = ys.length → (∀ (i : Nat) x y, xs[i]? = some x → ys[i]? = some y → Res n S x y) → Res n S (.ins C ns xs) (.ins C ns ys)
  | xd {ns : List Str} {xs ys : List Dat} : xs.length = ys.length → (∀ (i : Nat) x y, xs[i]? = some x → ys[i]? = some y → Res n S x y) → Res n S (.xd ns xs) (.xd ns ys)
section
variable {H : Hp} {R R' rho rho' : List Addr}
theorem rds_res {xs ys : List Dat} (hl : xs.length = ys.length) (h : ∀ (i : Nat) x y, xs[i]? = some x → ys[i]? = some y → ∀ v, RD H R rho x v → RD H R' rho' y v) : ∀ {vs : List V}, RDs H R rho xs vs → RDs H R' rho' ys vs := fun {vs} r => by
  have q := RDs.ls (LR := fun v d => RD H R rho d v) (fun _ _ h => h) r
  refine Ls.rds (L := fun v d => RD H R' rho' d v) (fun _ _ h => h) (Ls.of (by rw [q.length, hl]) fun i v d e1 e2 => ?_)
  obtain ⟨c, e3, r⟩ := q.getV e1
  exact h i c d e3 e2 v r
/-- what Res says of the bearing -/
theorem Res.rd {n : Nat} {S : Store} {T : List (Addr × HO)} (hn : ∀ (m : Nat) a d, rho[m]? = some a → S[m]? = some d → Node H R rho a d) (hR : ∀ a, a ∈ R' → a ∈ R) (hout : ∀ (m : Nat) a, n ≤ m → rho[m]? = some a → a ∉ R') (hlen : rho.length = S.length) {d d' : Dat} (r : Res n S d d') :
    (∀ v, RD H R rho d v → RD H R' (rho.take n) d' v) ∧ ∀ a, Node H R rho a d → a ∉ R' → RD H R' (rho.take n) d' (.ref a) := by
  induction r with
  | same b =>
    rename_i d
    refine ⟨fun v h => RD.trim hR h b, fun a h na => ?_⟩
    cases d with
    | lst xs => obtain ⟨vs, e, q⟩ := h; simp only [DL.below] at b; simp only [RD]; exact ⟨a, vs, rfl, na, e, RDs.trim hR q b⟩
    | dct ks xs => obtain ⟨vs, e, l, q⟩ := h; simp only [DL.below] at b; simp only [RD]; exact ⟨a, vs, rfl, na, .inl e, l, RDs.trim hR q b⟩
    | dtt ks xs => obtain ⟨vs, e, l, q⟩ := h; simp only [DL.below] at b; simp only [RD]; exact ⟨a, vs, rfl, na, .inl e, l, RDs.trim hR q b⟩
    | ins C ns xs => obtain ⟨dx, vs, e, l, q⟩ := h; simp only [DL.below] at b; simp only [RD]; exact ⟨a, dx, vs, rfl, na, e, l, RDs.trim hR q b⟩
    | _ => exact h.elim
  | cell hm he _ ih =>
    refine ⟨fun v h => ?_, fun a h => h.elim⟩
    simp only [RD] at h
    obtain ⟨a, ha, e⟩ := h
    subst e
    exact ih.2 a (hn _ a _ ha he) (hout _ a hm ha)
  | lst hl _ ih =>
    have key : ∀ {vs : List V}, RDs H R rho _ vs → RDs H R' (rho.take n) _ vs := fun {vs} q => rds_res hl (fun i x y e1 e2 => (ih i x y e1 e2).1) q
    refine ⟨fun v h => ?_, fun a h na => ?_⟩
    · simp only [RD] at h ⊢
      obtain ⟨a, vs, e, ha, q1, q2⟩ := h
      exact ⟨a, vs, e, fun z => ha (hR a z), q1, key q2⟩
    · obtain ⟨vs, e, q⟩ := h
      simp only [RD]
      exact ⟨a, vs, rfl, na, e, key q⟩
  | tup hl _ ih =>
    have key : ∀ {vs : List V}, RDs H R rho _ vs → RDs H R' (rho.take n) _ vs := fun {vs} q => rds_res hl (fun i x y e1 e2 => (ih i x y e1 e2).1) q
    refine ⟨fun v h => ?_, fun a h na => h.elim⟩
    simp only [RD] at h ⊢
    obtain ⟨a, vs, e, ha, q1, q2⟩ := h
    exact ⟨a, vs, e, fun z => ha (hR a z), q1, key q2⟩
  | dct hl _ ih =>
    have key : ∀ {vs : List V}, RDs H R rho _ vs → RDs H R' (rho.take n) _ vs := fun {vs} q => rds_res hl (fun i x y e1 e2 => (ih i x y e1 e2).1) q
    refine ⟨fun v h => ?_, fun a h na => ?_⟩
    · simp only [RD] at h ⊢
      obtain ⟨a, vs, e, ha, q1, l, q2⟩ := h
      exact ⟨a, vs, e, fun z => ha (hR a z), q1, l, key q2⟩
    · obtain ⟨vs, e, l, q⟩ := h
      simp only [RD]
      exact ⟨a, vs, rfl, na, .inl e, l, key q⟩
  | dtt hl _ ih =>
    have key : ∀ {vs : List V}, RDs H R rho _ vs → RDs H R' (rho.take n) _ vs := fun {vs} q => rds_res hl (fun i x y e1 e2 => (ih i x y e1 e2).1) q
    refine ⟨fun v h => ?_, fun a h na => ?_⟩
    · simp only [RD] at h ⊢
      obtain ⟨a, vs, e, ha, q1, l, q2⟩ := h
      exact ⟨a, vs, e, fun z => ha (hR a z), q1, l, key q2⟩
    · obtain ⟨vs, e, l, q⟩ := h
      simp only [RD]
      exact ⟨a, vs, rfl, na, .inl e, l, key q⟩
  | ins hl _ ih =>
    have key : ∀ {vs : List V}, RDs H R rho _ vs → RDs H R' (rho.take n) _ vs := fun {vs} q => rds_res hl (fun i x y e1 e2 => (ih i x y e1 e2).1) q
    refine ⟨fun v h => ?_, fun a h na => ?_⟩
    · simp only [RD] at h ⊢
      obtain ⟨a, dx, vs, e, ha, q1, l, q2⟩ := h
      exact ⟨a, dx, vs, e, fun z => ha (hR a z), q1, l, key q2⟩
    · obtain ⟨dx, vs, e, l, q⟩ := h
      simp only [RD]
      exact ⟨a, dx, vs, rfl, na, e, l, key q⟩
  | xd hl _ ih =>
    have key : ∀ {vs : List V}, RDs H R rho _ vs → RDs H R' (rho.take n) _ vs := fun {vs} q => rds_res hl (fun i x y e1 e2 => (ih i x y e1 e2).1) q
    refine ⟨fun v h => ?_, fun a h na => h.elim⟩
    simp only [RD] at h ⊢
    obtain ⟨a, vs, e, ha, q1, l, q2⟩ := h
    exact ⟨a, vs, e, fun z => ha (hR a z), q1, l, key q2⟩
end
/-- out of a def whose caller's store was S0: S' is what stands at the end, S1 what the caller sees of it -/
structure Out (S0 S' S1 : Store) : Prop where
  pre : ∃ R, S' = S1 ++ R
  len : S0.length ≤ S1.length
  bel : S1 = S0 ∨ belows S1.length S1
def ExitTo (S0 : Store) (K : KE) : KE := fun d S' => ∃ S1 d', Out S0 S' S1 ∧ Res S1.length S' d d' ∧ K d' S1
def ExitX (S0 : Store) (X : KX) : Exc → Env' → Store → Prop := fun e _ S' => ∃ S1 ys, Out S0 S' S1 ∧ Res S1.length S' (.xd e.ns e.xs) (.xd e.ns ys) ∧ X ⟨e.C, e.ns, ys⟩ S1
def endsOf (S0 : Store) (K : KE) (X : KX) : DEnds := { nx := fun _ S' => ExitTo S0 K .non S', rt := ExitTo S0 K, ex := ExitX S0 X }
theorem SR.belows [Tabl] {H : Hp} {L : LL} {S : Store} {T : List (Addr × HO)} (s : SR H L S T) : DL.belows S.length S := by
  obtain ⟨rho, x⟩ := s
  have key : ∀ ds : List Dat, (∀ d ∈ ds, DL.below S.length d) → DL.belows S.length ds := fun ds => by
    induction ds with
    | nil => intro _; simp only [DL.belows]
    | cons d ds ih =>
      intro h
      simp only [DL.belows]
      exact ⟨h d List.mem_cons_self, ih fun c hc => h c (List.mem_cons_of_mem _ hc)⟩
  refine key S fun d hd => ?_
  obtain ⟨n, hn, e⟩ := List.mem_iff_getElem.mp hd
  have hr : n < rho.length := by rw [x.len]; exact hn
  have hx := x.node n rho[n] d (List.getElem?_eq_getElem hr) (by rw [List.getElem?_eq_getElem hn, e])
  rw [← x.len]
  cases d with
  | lst xs => obtain ⟨vs, _, q⟩ := hx; simp only [DL.below]; exact q.belows
  | dct ks xs => obtain ⟨vs, _, _, q⟩ := hx; simp only [DL.below]; exact q.belows
  | dtt ks xs => obtain ⟨vs, _, _, q⟩ := hx; simp only [DL.below]; exact q.belows
  | ins C ns xs => obtain ⟨dx, vs, _, _, q⟩ := hx; simp only [DL.below]; exact q.belows
  | _ => exact hx.elim
theorem Out.go [Tabl] {S0 S' S1 : Store} {H H' : Hp} {L L' : LL} {T : List (Addr × HO)} {d d' : Dat} {v : V} (o : Out S0 S' S1) (r : Res S1.length S' d d') (s0 : SR H L S0 T) (l : Lle L L') (s : SR H' L' S' T) (p : L' v d) :
    ∃ L2, Lle L L2 ∧ L2 v d' ∧ SR H' L2 S1 T := by
  obtain ⟨⟨R, rfl⟩, hl, hb⟩ := o
  have hbel : DL.belows S1.length S1 := by
    rcases hb with h | h
    · rw [h]; exact s0.belows
    · exact h
  obtain ⟨rho, x⟩ := s
  have hsub : ∀ a, a ∈ rho.take S1.length ++ T.map (·.1) → a ∈ rho ++ T.map (·.1) := fun a h => by
    rcases List.mem_append.mp h with h | h
    · exact List.mem_append_left _ (List.mem_of_mem_take h)
    · exact List.mem_append_right _ h
  have hout : ∀ (m : Nat) a, S1.length ≤ m → rho[m]? = some a → a ∉ rho.take S1.length ++ T.map (·.1) := fun m a hm ha z => by
    have nd := List.nodup_append.mp x.nd
    rcases List.mem_append.mp z with h | h
    · obtain ⟨i, hi, e⟩ := List.mem_iff_getElem.mp h
      have hi2 : i < S1.length := by have := hi; rw [List.length_take] at this; omega
      have e2 : rho[i]? = some a := by
        have : (rho.take S1.length)[i]? = some a := by rw [List.getElem?_eq_getElem hi, e]
        rw [List.getElem?_take, if_pos hi2] at this
        exact this
      have := (List.getElem?_inj (List.getElem?_eq_some_iff.mp ha).1 nd.1).mp (ha.trans e2.symm)
      omega
    · exact nd.2.2 a (List.mem_of_getElem? ha) a h rfl
  have key := Res.rd (R' := rho.take S1.length ++ T.map (·.1)) (T := T) x.node hsub hout x.len r
  exact ⟨Ladd L v d', Ladd.le, Ladd.here, _, x.cutAt hbel (fun w c h => by
    rcases h with h | ⟨rfl, rfl⟩
    · exact RD.trim hsub (x.rd w c (l w c h)) ((s0.below h).mono hl)
    · exact key.1 _ (x.rd _ _ p)) fun w c h => (s0.ownB w c h).mono hl⟩
/-- the slots at a def's entry -/
def startD (N : List Str) (ds : List Dat) : Env' := ds.map some ++ List.replicate (N.length - ds.length) none
theorem envIn_start {N : List Str} {vs : List V} {ds : List Dat} {L : LL} (h : Ls L vs ds) : EnvIn (L2.start N vs) (startD N ds) L := by
  refine ⟨by simp [L2.start, startD, h.length], fun i d e => ?_⟩
  unfold startD at e
  by_cases hi : i < ds.length
  · rw [List.getElem?_append_left (by simpa using hi), List.getElem?_map] at e
    cases q : ds[i]? with
    | none => rw [q] at e; cases e
    | some c =>
      rw [q] at e
      injection e with e
      injection e with e
      subst e
      obtain ⟨v, h1, h2⟩ := h.get q
      refine ⟨v, ?_, h2⟩
      unfold L2.start
      rw [List.getElem?_append_left (by simpa [h.length] using hi), List.getElem?_map, h1]
      rfl
  · rw [List.getElem?_append_right (by simpa using Nat.le_of_not_lt hi)] at e
    rw [List.getElem?_replicate] at e
    split at e <;> cases e
section
variable {P : Program} {w : World} {K : PySem.W.Frag} {mg : Str → Option Value} {base : Heap} {x qual : Str} {params : Arguments} {body : List Stmt} {scope : Scope} {dvs : List V} {kws : List (Str × V)} {f : Addr} {fd : FuncData} {N ps : List Str} {k : Nat}
abbrev WE0 (E : XK) : WX := fun cls d _ H => E cls d H
/-- A DEF KEEPS ITS PROMISE: its body's reading u, from the promise G -/
theorem fnD [Tabl] {G : Spec} {u : US} (F : FunD K x qual params body scope dvs kws f fd) (Sc : FnScope N ps scope) (len : ∀ ds S K X, G ds S K X → ds.length = ps.length)
    (hb : ∀ (cdv : Value) (A : Around) (outer : List Env) (s : Shared) (H : Hp) (E : XK), Room k (A.deeper (envOfC qual scope s.heap.objs.size f cdv)) →
      Takes (cxOf (L2.CX P w) P w K mg base N qual scope f cdv A outer s H E) (WE0 E) → ∃ t, DSs (cxOf (L2.CX P w) P w K mg base N qual scope f cdv A outer s H E) (WE0 E) body t u)
    (hu : ∀ ds S K X, G ds S K X → belows S.length ds → belows S.length S → u (endsOf S K X) (startD N ds) S) : FnOk P w K mg base (L2.CX P w) (k + 1) f fd ps (spOf G) := by
  refine F.ok Sc (fun vs H Q E h => ?_) (fun cdv A outer s H vs Q E hr h => ?_)
  · obtain ⟨ds, L, S, T, K', X, p, _, g, _⟩ := h
    rw [p.length]
    exact len ds S K' X g
  · have tk : Takes (cxOf (L2.CX P w) P w K mg base N qual scope f cdv A outer s H E) (WE0 E) := takes_of rfl rfl rfl rfl
    obtain ⟨t, ht⟩ := hb cdv A outer s H E hr tk
    refine ⟨t, ht.run, ?_⟩
    obtain ⟨ds, L, S, T, K', X, p, hs, g, hq, hx⟩ := h
    have hbd : belows S.length ds := by
      have : ∀ {vs : List V} {ds : List Dat}, Ls L vs ds → belows S.length ds := fun {vs ds} q => by
        induction ds generalizing vs with
        | nil => simp only [belows]
        | cons d ds ih =>
          match vs, q with
          | v :: vs, q => simp only [belows]; exact ⟨hs.below q.1, ih q.2⟩
          | [], q => exact q.elim
      exact this p
    refine ht.imp (envIn_start p) hs (hu ds S K' X g hbd hs.belows) ⟨fun sg dl L' H' S' l hl he hs' hk => ?_, fun v d L' H' S' l hp hs' hk => ?_, fun sg dl L' H' S' l hl he hs' hk => hk.elim, fun sg dl L' H' S' l hl he hs' hk => hk.elim, fun e dd sg dl L' H' S' l hl he hp hs' hk => ?_⟩
    · obtain ⟨S1, d', o, r, hk⟩ := hk
      obtain ⟨L2, l2, p2, s2⟩ := o.go r hs (l.trans Ladd.le) (hs'.flat (d := .non) (v := .non) rfl) Ladd.here
      exact hq .non d' L2 H' S1 l2 p2 s2 hk
    · obtain ⟨S1, d', o, r, hk⟩ := hk
      obtain ⟨L2, l2, p2, s2⟩ := o.go r hs l hs' hp
      exact hq v d' L2 H' S1 l2 p2 s2 hk
    · obtain ⟨S1, ys, o, r, hk⟩ := hk
      obtain ⟨L2, l2, p2, s2⟩ := o.go r hs l hs' hp
      exact hx ⟨e.C, e.ns, ys⟩ dd L2 H' S1 l2 p2 s2 hk
end
/-! ### several targets -/
abbrev UGs := List Dat → Env' → Store → (Env' → Store → Prop) → KX → Prop
def ImpGs [Tabl] (W : WX) (t : TGs) (u : UGs) (ts : List Nat) : Prop := ∀ {sg dl L H S T vs ds K X Q}, EnvIn sg dl L → SR H L S T → Ls L vs ds → u ds dl S K X → GOk sg ts L T K Q → (∀ sg', sg'.length = sg.length → XOk W sg' L T X) → t vs sg H Q
structure DGs [Tabl] (X : Cx) (W : WX) (es : List Expr) (t : TGs) (u : UGs) (ts : List Nat) : Prop where
  run : PGs X es t
  imp : ImpGs W t u ts
def uGNil : UGs := fun ds dl S K _ => match ds with
  | [] => K dl S
  | _ => False
def uGCons (a : UG) (b : UGs) : UGs := fun ds dl S K X => match ds with
  | d :: r => a d dl S (fun dl2 S2 => b r dl2 S2 K X) X
  | [] => False
def uGTup (n : Nat) (b : UGs) : UG := fun d dl S K X => match d with
  | .tup xs => xs.length = n ∧ b xs dl S K (fun _ _ => False)
  | _ => False
section
variable {X : Cx} {W : WX} {e : Expr} {es : List Expr} {t : TG} {tr : TGs} {u : UG} {ur : UGs} {ts rs : List Nat} {pos : Pos}
theorem dgs_nil [Tabl] : DGs X W [] gNil uGNil [] := ⟨pgs_nil, fun {sg dl L H S T vs ds K X Q} he hs p h hk _ => by
  match vs, ds, p, h with
  | [], [], _, h => exact ⟨rfl, hk sg dl L H S (.refl L) rfl (fun _ _ => rfl) he hs h⟩
  | _, _ :: _, _, h => exact h.elim
  | _ :: _, [], p, _ => exact p.elim⟩
theorem dgs_cons [Tabl] (h1 : DG X W e t u ts) (h2 : DGs X W es tr ur rs) (hs : (assignEach (e :: es) X.env).map (·.2) = assign e X.env :: (assignEach es X.env).map (·.2) := by rfl) : DGs X W (e :: es) (gCons t tr) (uGCons u ur) (ts ++ rs) :=
  ⟨pgs_cons h1.run h2.run hs, fun {sg dl L H S T vs ds K X Q} he hs p h hk hx => by
    match vs, ds, p, h with
    | v :: vs, d :: ds, p, h =>
      refine ⟨v, vs, rfl, h1.imp he hs p.1 h (fun sg2 dl2 L2 H2 S2 l2 hl2 hw2 he2 hs2 h2' => ?_) (hx sg rfl)⟩
      refine h2.imp he2 hs2 (p.2.le l2) h2' (fun sg3 dl3 L3 H3 S3 l3 hl3 hw3 he3 hs3 h3 => ?_) fun sg' hl' => (hx sg' (hl'.trans hl2)).le l2
      exact hk sg3 dl3 L3 H3 S3 (l2.trans l3) (hl3.trans hl2) (fun vs hv => (hw3 vs fun i hi => hv i (List.mem_append_right _ hi)).trans (hw2 vs fun i hi => hv i (List.mem_append_left _ hi))) he3 hs3 h3
    | _, [], _, h => exact h.elim
    | [], _ :: _, p, _ => exact p.elim⟩
theorem dg_tup [Tabl] {k n : Nat} (hc : X.calm = true) (h : DGs X W es tr ur ts) (hn : (assignEach es X.env).length = n := by rfl) (hst : (assignEach es X.env).findIdx? (·.1) = none := by rfl) : DG X W (.Tuple es k pos) (gTup X.K n tr) (uGTup n ur) ts :=
  ⟨pg_tup hc h.run hn hst, fun {sg dl L H S T v d K X' Q} he hs p hu hk hx => by
    cases d with
    | tup xs =>
      obtain ⟨a, vs, e, r, s1, q⟩ := hs.tuple p
      refine ⟨a, vs, e, .of r, by rw [q.length]; exact hu.1, h.imp (he.le LaddL.le) s1 q hu.2 (fun sg2 dl2 L2 H2 S2 l2 => hk sg2 dl2 L2 H2 S2 (LaddL.le.trans l2)) fun sg' _ e dd L' H' S' _ _ _ z => z.elim⟩
    | _ => exact hu.elim⟩
end
/-! ### comprehensions -/
theorem wipe_len (sg : L2.St) : ∀ vs : List Nat, (wipe sg vs).length = sg.length
  | [] => rfl
  | v :: vs => by
    show ((wipe sg vs).set v none).length = sg.length
    rw [List.length_set, wipe_len sg vs]
theorem wipe_at {sg : L2.St} {n : Nat} : ∀ {zs : List Nat}, n ∈ zs → n < sg.length → (wipe sg zs)[n]? = some none
  | z :: zs, hz, hl => by
    show ((wipe sg zs).set z none)[n]? = some none
    by_cases hzn : z = n
    · subst hzn
      rw [List.getElem?_set_self (by rw [wipe_len]; exact hl)]
    · rw [List.getElem?_set_ne hzn]
      rcases List.mem_cons.mp hz with q | q
      · exact absurd q.symm hzn
      · exact wipe_at q hl
theorem wipe_wipe {sg : L2.St} {vs : List Nat} : ∀ us : List Nat, (∀ i ∈ us, i ∈ vs) → wipe (wipe sg vs) us = wipe sg vs
  | [], _ => rfl
  | j :: us, hj => by
    show (wipe (wipe sg vs) us).set j none = wipe sg vs
    rw [wipe_wipe us fun i hi => hj i (List.mem_cons_of_mem _ hi)]
    refine List.ext_getElem? fun n => ?_
    by_cases hn : n = j
    · subst hn
      by_cases hlen : n < sg.length
      · rw [List.getElem?_set_self (by rw [wipe_len]; exact hlen), wipe_at (hj n List.mem_cons_self) hlen]
      · rw [List.getElem?_eq_none_iff.mpr (by rw [List.length_set, wipe_len]; omega), List.getElem?_eq_none_iff.mpr (by rw [wipe_len]; omega)]
    · rw [List.getElem?_set_ne (Ne.symm hn)]
def wipeD (dl : Env') : List Nat → Env'
  | [] => dl
  | v :: vs => (wipeD dl vs).set v none
theorem EnvIn.unset {sg : L2.St} {dl : Env'} {L : LL} (he : EnvIn sg dl L) (i : Nat) : EnvIn (sg.set i none) (dl.set i none) L := by
  refine ⟨by rw [List.length_set, List.length_set]; exact he.1, fun k c hk => ?_⟩
  by_cases e : k = i
  · subst e
    by_cases hi : k < dl.length
    · rw [List.getElem?_set_self hi] at hk
      cases hk
    · rw [List.getElem?_eq_none_iff.mpr (by rw [List.length_set]; omega)] at hk
      cases hk
  · rw [List.getElem?_set_ne (Ne.symm e)] at hk
    obtain ⟨w, h1, h2⟩ := he.2 k c hk
    exact ⟨w, by rw [List.getElem?_set_ne (Ne.symm e)]; exact h1, h2⟩
theorem EnvIn.wipe {sg : L2.St} {dl : Env'} {L : LL} (he : EnvIn sg dl L) : ∀ vs : List Nat, EnvIn (L2.wipe sg vs) (wipeD dl vs) L
  | [] => he
  | v :: vs => (EnvIn.wipe he vs).unset v
abbrev WF0 : WX := fun _ _ _ _ => False
abbrev XF0 : KX := fun _ _ => False
structure DTs [Tabl] (X : Cx) (W : WX) (es : List Expr) (t : TT) (u : UT) : Prop where
  run : PTs X es t
  imp : ImpT W t u
def uYes : UT := fun _ S K _ => K true S
theorem dts_nil [Tabl] {X : Cx} {W : WX} : DTs X W [] tYes uYes := ⟨pts_nil, fun {sg dl L H S T K X Q} he hs h hq _ => hq true L H S (.refl L) hs h⟩
theorem dts_one [Tabl] {X : Cx} {W : WX} {c : Expr} {t : TT} {u : UT} (h : DT X W c t u) : DTs X W [c] t u := ⟨pts_one h.run, h.imp⟩
/-- the comprehension: I speaks of the turn, of what is made, of the store -/
def uLcW (i : UI) (own : List Nat) (g : UG) (tt : UT) (ue : UE) (fin : List Dat → Store → KE → Prop) : UE := fun dl S K X => i dl S (fun ds P S1 => ∃ I : Nat → List Dat → Store → Prop, I 0 [] S1 ∧
  (∀ (j : Nat) d acc S2, ds[j]? = some d → I j acc S2 → P S2 ∧ acc.length < sizeLine ∧ g d (wipeD dl own) S2 (fun dl2 S3 => tt dl2 S3 (fun b S4 => if b = true then ue dl2 S4 (fun y S5 => I (j + 1) (acc ++ [y]) S5) XF0 else I (j + 1) acc S4) XF0) XF0) ∧
  ∀ acc S2, I ds.length acc S2 → P S2 ∧ fin acc S2 K) X
def uLc (i : UI) (own : List Nat) (g : UG) (tt : UT) (ue : UE) : UE := uLcW i own g tt ue fun acc S K => K (.lst acc) S
def uLcC (i : UI) (own : List Nat) (g : UG) (tt : UT) (ue : UE) : UE := uLcW i own g tt ue fun acc S K => K (.cell S.length) (S ++ [.lst acc])
section
variable {H : Hp} {L : LL} {S : Store} {T : List (Addr × HO)}
theorem ntb_cons {D : Addr} {o : HO} {T : List (Addr × HO)} (h : (∀ ps, o ≠ .tbl ps) ∧ ∀ Q, o ≠ .ext Q) (k : ∀ p ∈ T, (∀ ps, p.2 ≠ .tbl ps) ∧ ∀ Q, p.2 ≠ .ext Q) : ∀ p ∈ (D, o) :: T, (∀ ps, p.2 ≠ .tbl ps) ∧ ∀ Q, p.2 ≠ .ext Q := fun p hp => by
  rcases List.mem_cons.mp hp with e | e
  · subst e; exact h
  · exact k p e
theorem SRx.pinSet [Tabl] {rho : List Addr} {D : Addr} {o o' : HO} (s : SRx H L S ((D, o) :: T) rho) (n0 : (∀ ps, o' ≠ .tbl ps) ∧ ∀ Q, o' ≠ .ext Q := by (constructor <;> (intro _ z; cases z))) (n1 : ∀ ps, o ≠ .tbl ps := by (intro _ z; cases z)) (n2 : ∀ P, o ≠ .ext P := by (intro _ z; cases z)) : SRx (upd H D o') L S ((D, o') :: T) rho := by
  have hin : D ∈ rho ++ ((D, o) :: T).map (·.1) := by simp
  have nd := s.nd
  have hne : ∀ n a, rho[n]? = some a → a ≠ D := fun n a h z => by
    have q := (List.nodup_append.mp nd).2.2 a (List.mem_of_getElem? h) D (by simp)
    exact q z
  have md : Mild H (upd H D o') := .at (s.pin (D, o) List.mem_cons_self) n1 n2
  have m : Mono H (upd H D o') (rho ++ ((D, o) :: T).map (·.1)) (rho ++ ((D, o') :: T).map (·.1)) rho rho :=
    ⟨fun a u h e _ _ => by rw [upd_ne fun z => h (by rw [z]; exact hin)]; exact e, fun a h => .inl h, fun _ _ h => h, fun _ _ _ => FnAt.mono md.ext⟩
  refine ⟨s.len, s.nd, fun n a d h1 h2 => (s.node n a d h1 h2).mono m (by rw [upd_ne (hne n a h1)]), fun p hp => ?_, fun v d h => RD.mono m (s.rd v d h), md.tabs s.tab, fun q o e => md.ext _ _ (s.cel q o e), fun v d h => RD.mono m (s.own v d h), fun p hp => ntb_cons n0 (fun q hq => s.ntb q (List.mem_cons_of_mem _ hq)) p hp⟩
  rcases List.mem_cons.mp hp with e | e
  · subst e; exact upd_same
  · have hp' := s.pin p (List.mem_cons_of_mem _ e)
    have : p.1 ≠ D := fun z => by
      have q := (List.nodup_append.mp nd).2.1
      simp only [List.map_cons, List.nodup_cons] at q
      exact q.1 (List.mem_map.mpr ⟨p, e, z⟩)
    rw [upd_ne this]; exact hp'
/-- a new object is pinned -/
theorem SR.pinNew [Tabl] (s : SR H L S T) {D : Addr} {o : HO} (hD : H D = none) (n0 : (∀ ps, o ≠ .tbl ps) ∧ ∀ Q, o ≠ .ext Q := by (constructor <;> (intro _ z; cases z))) : SR (upd H D o) L S ((D, o) :: T) := by
  obtain ⟨rho, x⟩ := s
  have nf := x.fresh hD
  have m : Mono H (upd H D o) (rho ++ T.map (·.1)) (rho ++ ((D, o) :: T).map (·.1)) rho rho :=
    ⟨fun a u _ e _ _ => by rw [upd_ne (ne_of_none e hD)]; exact e, fun a h => by
      simp only [List.map_cons, List.mem_append, List.mem_cons] at h ⊢
      rcases h with h | h | h
      · exact .inl (.inl h)
      · subst h; exact .inr hD
      · exact .inl (.inr h), fun _ _ h => h, fun _ _ _ => FnAt.mono (Mild.new hD).ext⟩
  refine ⟨rho, x.len, ?_, fun n a d h1 h2 => ?_, fun p hp => ?_, fun v d h => RD.mono m (x.rd v d h), (Mild.new hD).tabs x.tab, fun q o e => (Mild.new hD).ext _ _ (x.cel q o e), fun v d h => RD.mono m (x.own v d h), ntb_cons n0 x.ntb⟩
  · have : (rho ++ ((D, o) :: T).map (·.1)).Perm (D :: (rho ++ T.map (·.1))) := List.perm_middle
    exact this.nodup_iff.mpr (List.nodup_cons.mpr ⟨nf, x.nd⟩)
  · have hx := x.node n a d h1 h2
    obtain ⟨u, hu⟩ := hx.some
    exact hx.mono m (by rw [upd_ne (ne_of_none hu hD)])
  · rcases List.mem_cons.mp hp with e | e
    · subst e; exact upd_same
    · have hp' := x.pin p e
      rw [upd_ne (ne_of_none hp' hD)]; exact hp'
theorem pin_mono {rho : List Addr} {D : Addr} {o : HO} : Mono H H (rho ++ ((D, o) :: T).map (·.1)) (rho ++ T.map (·.1)) rho rho :=
  ⟨fun _ _ _ e _ _ => e, fun a h => .inl (by
    simp only [List.map_cons, List.mem_append, List.mem_cons] at h ⊢
    rcases h with h | h
    · exact .inl h
    · exact .inr (.inr h)), fun _ _ h => h, fun _ _ _ h => h⟩
theorem SRx.unpin [Tabl] {rho : List Addr} {D : Addr} {o : HO} (s : SRx H L S ((D, o) :: T) rho) : SRx H L S T rho ∧ D ∉ rho ++ T.map (·.1) ∧ H D = some o := by
  have hp : (rho ++ ((D, o) :: T).map (·.1)).Perm (D :: (rho ++ T.map (·.1))) := List.perm_middle
  have nd := List.nodup_cons.mp (hp.nodup_iff.mp s.nd)
  refine ⟨⟨s.len, nd.2, fun n a d h1 h2 => (s.node n a d h1 h2).mono pin_mono rfl, fun p hp => s.pin p (List.mem_cons_of_mem _ hp), fun v d h => RD.mono pin_mono (s.rd v d h), s.tab, s.cel, fun v d h => RD.mono pin_mono (s.own v d h), fun p hp => s.ntb p (List.mem_cons_of_mem _ hp)⟩, nd.1, s.pin (D, o) List.mem_cons_self⟩
theorem SR.unpin [Tabl] {D : Addr} {o : HO} (s : SR H L S ((D, o) :: T)) : SR H L S T := let ⟨rho, x⟩ := s; ⟨rho, x.unpin.1⟩
/-- the pinned list becomes a tree -/
theorem SR.pinTree [Tabl] {D : Addr} {vs : List V} {ds : List Dat} (s : SR H L S ((D, .lst vs) :: T)) (p : Ls L vs ds) : SR H (Ladd L (.ref D) (.lst ds)) S T := by
  obtain ⟨rho, x⟩ := s
  obtain ⟨y, nD, hD⟩ := x.unpin
  refine ⟨rho, y.more fun v d q => ?_⟩
  rcases q with q | ⟨rfl, rfl⟩
  · exact .inl q
  · refine .inr ?_
    simp only [RD]
    exact ⟨D, vs, rfl, nD, hD, Ls.rds y.rd p⟩
/-- .. a cell -/
theorem SR.pinCell [Tabl] {D : Addr} {vs : List V} {ds : List Dat} (s : SR H L S ((D, .lst vs) :: T)) (p : Ls L vs ds) : SR H (Ladd L (.ref D) (.cell S.length)) (S ++ [.lst ds]) T := by
  obtain ⟨rho, x⟩ := s
  have hD := x.pin (D, .lst vs) List.mem_cons_self
  have e1 : ((rho ++ [D]) ++ T.map (·.1)).Perm (rho ++ ((D, HO.lst vs) :: T).map (·.1)) := by simp
  have m : Mono H H (rho ++ ((D, HO.lst vs) :: T).map (·.1)) ((rho ++ [D]) ++ T.map (·.1)) rho (rho ++ [D]) :=
    ⟨fun _ _ _ e _ _ => e, fun a h => .inl (e1.mem_iff.mp h), fun n a e => by rw [List.getElem?_append_left (List.getElem?_eq_some_iff.mp e).1]; exact e, fun _ _ _ h => h⟩
  refine ⟨rho ++ [D], by simp [x.len], e1.nodup_iff.mpr x.nd, fun n a c h1 h2 => ?_, fun p hp => x.pin p (List.mem_cons_of_mem _ hp), fun v c q => ?_, x.tab, x.cel, fun v c q => RD.mono m (x.own v c q), fun p hp => x.ntb p (List.mem_cons_of_mem _ hp)⟩
  · by_cases hn : n < rho.length
    · rw [List.getElem?_append_left hn] at h1
      rw [List.getElem?_append_left (by rw [← x.len]; exact hn)] at h2
      exact (x.node n a c h1 h2).mono m rfl
    · have e : n = rho.length := by
        have := (List.getElem?_eq_some_iff.mp h1).1
        simp at this; omega
      subst e
      rw [List.getElem?_append_right (Nat.le_refl _)] at h1
      rw [List.getElem?_append_right (by rw [x.len]; exact Nat.le_refl _), x.len] at h2
      simp at h1 h2
      subst h1; subst h2
      exact ⟨vs, hD, Ls.rds (fun v c q => RD.mono m (x.rd v c q)) p⟩
  · rcases q with q | ⟨rfl, rfl⟩
    · exact RD.mono m (x.rd v c q)
    · simp only [RD]
      exact ⟨D, by rw [← x.len, List.getElem?_append_right (Nat.le_refl _)]; simp, rfl⟩
theorem Ls.snoc {vs : List V} {ds : List Dat} {v : V} {d : Dat} (h : Ls L vs ds) (p : L v d) : Ls L (vs ++ [v]) (ds ++ [d]) := h.append ⟨p, True.intro⟩
end
section
variable {X : Cx} {W : WX} {elt tg iter : Expr} {ifs : List Expr} {scope : Scope} {own : List (Str × Nat)} {pos : Pos} {wi : TI} {ui : UI} {g : TG} {ug : UG} {ts : List Nat} {tt : TT} {ut : UT} {te : TE} {ue : UE}
theorem imp_lc [Tabl] {fin : List Dat → Store → KE → Prop} {vs : List Nat} (hfin : ∀ {H L S T D} {accV : List V} {acc : List Dat} {K Q}, SR H L S ((D, .lst accV) :: T) → Ls L accV acc → fin acc S K → EOk L T K Q → Q (.ref D) H)
    (hi : ImpI W wi ui) (hg : ImpG WF0 g ug ts) (ht : ImpT WF0 tt ut) (he : ImpE WF0 te ue) (hts : ∀ i ∈ ts, i ∈ vs) : ImpE W (tLc wi g tt te vs) (uLcW ui vs ug ut ue fin) := fun {sg dl L H S T K X' Q} hE hs h hq hx => by
  refine hi hE hs h (fun J ds P L1 H1 S1 l1 s1 hJ h1 D hD => ?_) hx
  obtain ⟨I, h0, hI, hd⟩ := h1
  refine ⟨fun i m H2 => m = ds.length - i ∧ i ≤ ds.length ∧ ∃ L2 S2 accV acc, Lle L1 L2 ∧ Ls L2 accV acc ∧ SR H2 L2 S2 ((D, .lst accV) :: T) ∧ I i acc S2, ⟨_, rfl, Nat.zero_le _, L1, S1, [], [], .refl _, True.intro, s1.pinNew hD, h0⟩, ?_⟩
  rintro i m H2 ⟨rfl, hi2, L2, S2, accV, acc, l2, p2, s2, h2⟩
  by_cases hlt : i < ds.length
  · obtain ⟨hP, hsz, hb2⟩ := hI i ds[i] acc S2 (List.getElem?_eq_getElem hlt) h2
    refine .inr ⟨hJ.go i H2 L2 S2 _ l2 s2 hP hlt, fun H' => ∃ m', m' < ds.length - i ∧ m' = ds.length - (i + 1) ∧ i + 1 ≤ ds.length ∧ ∃ L2 S2 accV acc, Lle L1 L2 ∧ Ls L2 accV acc ∧ SR H' L2 S2 ((D, .lst accV) :: T) ∧ I (i + 1) acc S2, fun H' h => h, fun x H' hy => ?_⟩
    obtain ⟨L3, l3, p3, s3⟩ := hJ.yld i H2 L2 S2 _ x H' ds[i] l2 s2 hP (List.getElem?_eq_getElem hlt) hy
    have hE3 : EnvIn (wipe sg vs) (wipeD dl vs) L3 := (hE.le ((l1.trans l2).trans l3)).wipe vs
    refine hg hE3 s3 p3 hb2 (fun sg4 dl4 L4 H4 S4 l4 hl4 hw4 he4 s4 h4 => ⟨?_, ?_⟩) fun e dd L' H' S' _ _ _ z => z.elim
    · rw [hw4 vs hts]
      exact wipe_wipe vs fun i h => h
    · refine ht he4 s4 h4 (fun b L5 H5 S5 l5 s5 h5 => ?_) fun e dd L' H' S' _ _ _ z => z.elim
      cases b with
      | true =>
        show te sg4 H5 _
        refine he (he4.le l5) s5 h5 (fun v d L6 H6 S6 l6 p6 s6 h6 => ?_) fun e dd L' H' S' _ _ _ z => z.elim
        obtain ⟨rho, x6⟩ := id s6
        have l36 := ((l3.trans l4).trans l5).trans l6
        refine ⟨accV, x6.pin (D, .lst accV) List.mem_cons_self, by rw [p2.length]; exact hsz, _, by omega, rfl, hlt, L6, S6, accV ++ [v], acc ++ [d], l2.trans l36, (p2.le l36).snoc p6, ⟨rho, x6.pinSet⟩, h6⟩
      | false =>
        have l35 := (l3.trans l4).trans l5
        exact ⟨_, by omega, rfl, hlt, L5, S5, accV, acc, l2.trans l35, p2.le l35, s5, h5⟩
  · have e : i = ds.length := by omega
    subst e
    obtain ⟨hP, hn⟩ := hd acc S2 h2
    exact .inl ⟨hJ.stop _ H2 L2 S2 _ l2 s2 hP rfl, hfin s2 p2 hn (hq.le (l1.trans l2))⟩
theorem de_lc [Tabl] (hc : X.calm = true) (hN : X.N.Nodup) (hi : DI X W tg iter wi ui) (ok : BlkOk X.N X.env.scope scope own)
    (hg : ∀ (s : Shared) (H : Hp) (C : Addr) (cl : List (Str × Addr)) (fp : List Addr), DG (X.blk s H scope (compEnvC scope cl C X.env) fp) WF0 tg g ug ts) (ht : ∀ (s : Shared) (H : Hp) (C : Addr) (cl : List (Str × Addr)) (fp : List Addr), DTs (X.blk s H scope (compEnvC scope cl C X.env) fp) WF0 ifs tt ut)
    (he : ∀ (s : Shared) (H : Hp) (C : Addr) (cl : List (Str × Addr)) (fp : List Addr), DE (X.blk s H scope (compEnvC scope cl C X.env) fp) WF0 elt te ue) (hts : ∀ i ∈ ts, i ∈ own.map (·.2)) (hs : ∀ x, foldedSetIterable iter X.env x = pure x := by intro _; rfl) :
    DE X W (.ListComp elt [⟨tg, iter, ifs, 0⟩] scope pos) (tLc wi g tt te (own.map (·.2))) (uLc ui (own.map (·.2)) ug ut ue) :=
  ⟨pe_lc hc hN hi.run ok (fun s H C cl fp => (hg s H C cl fp).run) (fun s H C cl fp => (ht s H C cl fp).run) (fun s H C cl fp => (he s H C cl fp).run) hs,
    imp_lc (fun {H L S T D accV acc K Q} s p h hq => hq _ _ _ _ S Ladd.le Ladd.here (s.pinTree p) h) hi.imp (hg {} (fun _ => none) 0 [] []).imp (ht {} (fun _ => none) 0 [] []).imp (he {} (fun _ => none) 0 [] []).imp hts⟩
theorem de_lcC [Tabl] (hc : X.calm = true) (hN : X.N.Nodup) (hi : DI X W tg iter wi ui) (ok : BlkOk X.N X.env.scope scope own)
    (hg : ∀ (s : Shared) (H : Hp) (C : Addr) (cl : List (Str × Addr)) (fp : List Addr), DG (X.blk s H scope (compEnvC scope cl C X.env) fp) WF0 tg g ug ts) (ht : ∀ (s : Shared) (H : Hp) (C : Addr) (cl : List (Str × Addr)) (fp : List Addr), DTs (X.blk s H scope (compEnvC scope cl C X.env) fp) WF0 ifs tt ut)
    (he : ∀ (s : Shared) (H : Hp) (C : Addr) (cl : List (Str × Addr)) (fp : List Addr), DE (X.blk s H scope (compEnvC scope cl C X.env) fp) WF0 elt te ue) (hts : ∀ i ∈ ts, i ∈ own.map (·.2)) (hs : ∀ x, foldedSetIterable iter X.env x = pure x := by intro _; rfl) :
    DE X W (.ListComp elt [⟨tg, iter, ifs, 0⟩] scope pos) (tLc wi g tt te (own.map (·.2))) (uLcC ui (own.map (·.2)) ug ut ue) :=
  ⟨pe_lc hc hN hi.run ok (fun s H C cl fp => (hg s H C cl fp).run) (fun s H C cl fp => (ht s H C cl fp).run) (fun s H C cl fp => (he s H C cl fp).run) hs,
    imp_lc (fun {H L S T D accV acc K Q} s p h hq => hq _ _ _ _ _ Ladd.le Ladd.here (s.pinCell p) h) hi.imp (hg {} (fun _ => none) 0 [] []).imp (ht {} (fun _ => none) 0 [] []).imp (he {} (fun _ => none) 0 [] []).imp hts⟩
/-- name = [..] on one line -/
theorem fin_tree [Tabl] {H : Hp} {L : LL} {S : Store} {T : List (Addr × HO)} {D : Addr} {accV : List V} {acc : List Dat} {K : KE} {Q : VK} (s : SR H L S ((D, .lst accV) :: T)) (p : Ls L accV acc) (h : K (.lst acc) S) (hq : EOk L T K Q) : Q (.ref D) H := hq _ _ _ _ S Ladd.le Ladd.here (s.pinTree p) h
theorem fin_cell [Tabl] {H : Hp} {L : LL} {S : Store} {T : List (Addr × HO)} {D : Addr} {accV : List V} {acc : List Dat} {K : KE} {Q : VK} (s : SR H L S ((D, .lst accV) :: T)) (p : Ls L accV acc) (h : K (.cell S.length) (S ++ [.lst acc])) (hq : EOk L T K Q) : Q (.ref D) H := hq _ _ _ _ _ Ladd.le Ladd.here (s.pinCell p) h
theorem imp_set [Tabl] {i : Nat} (h : ImpE W te ue) : ImpS W (tAsg te (gName i)) (uSet i ue) := fun {sg dl L H S T D D'} he hs h' hk =>
  h he hs h' (fun v d L1 H1 S1 l1 p1 s1 h1 => hk.nx (sg.set i (some v)) (dl.set i (some d)) L1 H1 S1 l1 (List.length_set ..) ((he.le l1).set h1.1 p1) s1 h1.2) (hk.ex.x rfl he)
theorem ds_setLc [Tabl] {i : Nat} {y : Str} {py spos : Pos} (hc : X.calm = true) (hN : X.N.Nodup) (hi : DI X W tg iter wi ui) (ok : BlkOk X.N X.env.scope scope own)
    (hg : ∀ (s : Shared) (H : Hp) (C : Addr) (cl : List (Str × Addr)) (fp : List Addr), DG (X.blk s H scope (compEnvC scope cl C X.env) fp) WF0 tg g ug ts) (ht : ∀ (s : Shared) (H : Hp) (C : Addr) (cl : List (Str × Addr)) (fp : List Addr), DTs (X.blk s H scope (compEnvC scope cl C X.env) fp) WF0 ifs tt ut)
    (he : ∀ (s : Shared) (H : Hp) (C : Addr) (cl : List (Str × Addr)) (fp : List Addr), DE (X.blk s H scope (compEnvC scope cl C X.env) fp) WF0 elt te ue) (hts : ∀ i ∈ ts, i ∈ own.map (·.2))
    (hy : X.N[i]? = some y := by rfl) (hyl : X.env.scope.names.lookup y = some .local := by rfl)
    (hsw : swapsWith (.ListComp elt [⟨tg, iter, ifs, 0⟩] scope pos) (some (.Name y py)) spos.line X.env = pure true := by exact sw_true rfl rfl rfl (by decide +kernel)) (hs : ∀ x, foldedSetIterable iter X.env x = pure x := by intro _; rfl) :
    DS X W (.Assign [.Name y py] (.ListComp elt [⟨tg, iter, ifs, 0⟩] scope pos) spos) (tAsg (tLc wi g tt te (own.map (·.2))) (gName i)) (uSet i (uLc ui (own.map (·.2)) ug ut ue)) :=
  ⟨ps_setLc hc hN hy hyl hsw hi.run ok (fun s H C cl fp => (hg s H C cl fp).run) (fun s H C cl fp => (ht s H C cl fp).run) (fun s H C cl fp => (he s H C cl fp).run) hs,
    imp_set (imp_lc fin_tree hi.imp (hg {} (fun _ => none) 0 [] []).imp (ht {} (fun _ => none) 0 [] []).imp (he {} (fun _ => none) 0 [] []).imp hts)⟩
theorem ds_setLcC [Tabl] {i : Nat} {y : Str} {py spos : Pos} (hc : X.calm = true) (hN : X.N.Nodup) (hi : DI X W tg iter wi ui) (ok : BlkOk X.N X.env.scope scope own)
    (hg : ∀ (s : Shared) (H : Hp) (C : Addr) (cl : List (Str × Addr)) (fp : List Addr), DG (X.blk s H scope (compEnvC scope cl C X.env) fp) WF0 tg g ug ts) (ht : ∀ (s : Shared) (H : Hp) (C : Addr) (cl : List (Str × Addr)) (fp : List Addr), DTs (X.blk s H scope (compEnvC scope cl C X.env) fp) WF0 ifs tt ut)
    (he : ∀ (s : Shared) (H : Hp) (C : Addr) (cl : List (Str × Addr)) (fp : List Addr), DE (X.blk s H scope (compEnvC scope cl C X.env) fp) WF0 elt te ue) (hts : ∀ i ∈ ts, i ∈ own.map (·.2))
    (hy : X.N[i]? = some y := by rfl) (hyl : X.env.scope.names.lookup y = some .local := by rfl)
    (hsw : swapsWith (.ListComp elt [⟨tg, iter, ifs, 0⟩] scope pos) (some (.Name y py)) spos.line X.env = pure true := by exact sw_true rfl rfl rfl (by decide +kernel)) (hs : ∀ x, foldedSetIterable iter X.env x = pure x := by intro _; rfl) :
    DS X W (.Assign [.Name y py] (.ListComp elt [⟨tg, iter, ifs, 0⟩] scope pos) spos) (tAsg (tLc wi g tt te (own.map (·.2))) (gName i)) (uSet i (uLcC ui (own.map (·.2)) ug ut ue)) :=
  ⟨ps_setLc hc hN hy hyl hsw hi.run ok (fun s H C cl fp => (hg s H C cl fp).run) (fun s H C cl fp => (ht s H C cl fp).run) (fun s H C cl fp => (he s H C cl fp).run) hs,
    imp_set (imp_lc fin_cell hi.imp (hg {} (fun _ => none) 0 [] []).imp (ht {} (fun _ => none) 0 [] []).imp (he {} (fun _ => none) 0 [] []).imp hts)⟩
end
end DL
/-! DL5: operators, subscripts, slices, built-ins, methods over data. -/
namespace DL
open PySem L2
section
variable {H : Hp} {L : LL} {S : Store} {T : List (Addr × HO)} {v : V}
theorem SR.vint [Tabl] (s : SR H L S T) {i : Int} (h : L v (.int i)) : v = .int i := by obtain ⟨_, x⟩ := s; have := x.rd _ _ h; simp only [RD] at this; exact this
theorem SR.vstr [Tabl] (s : SR H L S T) {i : Str} (h : L v (.str i)) : v = .str i := by obtain ⟨_, x⟩ := s; have := x.rd _ _ h; simp only [RD] at this; exact this
theorem SR.vbl [Tabl] (s : SR H L S T) {i : Bool} (h : L v (.bl i)) : v = .bl i := by obtain ⟨_, x⟩ := s; have := x.rd _ _ h; simp only [RD] at this; exact this
theorem SR.vnon [Tabl] (s : SR H L S T) (h : L v .non) : v = .non := by obtain ⟨_, x⟩ := s; have := x.rd _ _ h; simp only [RD] at this; exact this
theorem EOk.flat [Tabl] {K : KE} {Q : VK} (hq : EOk L T K Q) (s : SR H L S T) {d : Dat} (hf : Flat d v) (h : K d S) : Q v H := hq v d (Ladd L v d) H S Ladd.le Ladd.here (s.flat hf) h
/-- flat data as values -/
def flat? : Dat → Option V
  | .non => some .non | .bl b => some (.bl b) | .int i => some (.int i) | .str x => some (.str x)
  | _ => none
theorem SR.vflat [Tabl] (s : SR H L S T) {d : Dat} {w : V} (hf : flat? d = some w) (h : L v d) : v = w := by
  cases d with
  | non => simp [flat?] at hf; subst hf; exact s.vnon h
  | bl b => simp [flat?] at hf; subst hf; exact s.vbl h
  | int b => simp [flat?] at hf; subst hf; exact s.vint h
  | str b => simp [flat?] at hf; subst hf; exact s.vstr h
  | _ => simp [flat?] at hf
def flats? (ds : List Dat) : Option (List V) := ds.mapM flat?
theorem Ls.flats [Tabl] (s : SR H L S T) : ∀ {vs ws : List V} {ds : List Dat}, ds.mapM flat? = some ws → Ls L vs ds → vs = ws
  | [], ws, [], h, _ => by simp at h; exact h.symm
  | v :: vs, ws, d :: ds, h, p => by
    rw [List.mapM_cons] at h
    cases e1 : flat? d with
    | none => rw [e1] at h; cases h
    | some w =>
      cases e2 : ds.mapM flat? with
      | none => rw [e1, e2] at h; cases h
      | some us =>
        rw [e1, e2] at h
        injection h with h
        subst h
        rw [s.vflat e1 p.1, Ls.flats s e2 p.2]
  | [], _, _ :: _, _, p => p.elim
  | _ :: _, _, [], _, p => p.elim
theorem mapM_ints (ns : List Int) : (ns.map Dat.int).mapM flat? = some (ns.map V.int) := by
  induction ns with
  | nil => rfl
  | cons n ns ih => rw [List.map_cons, List.mapM_cons, ih]; rfl
theorem mapM_strs (ns : List Str) : (ns.map Dat.str).mapM flat? = some (ns.map V.str) := by
  induction ns with
  | nil => rfl
  | cons n ns ih => rw [List.map_cons, List.mapM_cons, ih]; rfl
theorem mapM_bls (ns : List Bool) : (ns.map Dat.bl).mapM flat? = some (ns.map V.bl) := by
  induction ns with
  | nil => rfl
  | cons n ns ih => rw [List.map_cons, List.mapM_cons, ih]; rfl
theorem Ls.ints [Tabl] (s : SR H L S T) {vs : List V} {ns : List Int} (h : Ls L vs (ns.map Dat.int)) : vs = ns.map V.int := h.flats s (mapM_ints ns)
theorem Ls.strs [Tabl] (s : SR H L S T) {vs : List V} {ns : List Str} (h : Ls L vs (ns.map Dat.str)) : vs = ns.map V.str := h.flats s (mapM_strs ns)
theorem Ls.bls [Tabl] (s : SR H L S T) {vs : List V} {ns : List Bool} (h : Ls L vs (ns.map Dat.bl)) : vs = ns.map V.bl := h.flats s (mapM_bls ns)
theorem Ls.one {L : LL} {vs : List V} {d : Dat} (h : Ls L vs [d]) : ∃ v, vs = [v] ∧ L v d := by
  match vs, h with
  | [v], h => exact ⟨v, rfl, h.1⟩
  | [], h => exact h.elim
  | _ :: _ :: _, h => exact h.2.elim
theorem Ls.two {L : LL} {vs : List V} {d e : Dat} (h : Ls L vs [d, e]) : ∃ v w, vs = [v, w] ∧ L v d ∧ L w e := by
  match vs, h with
  | [v, w], h => exact ⟨v, w, rfl, h.1, h.2.1⟩
  | [], h => exact h.elim
  | [_], h => exact h.2.elim
  | _ :: _ :: _ :: _, h => exact h.2.2.elim
theorem Ls.nil {L : LL} {vs : List V} (h : Ls L vs []) : vs = [] := by
  match vs, h with
  | [], _ => rfl
  | _ :: _, h => exact h.elim
end
/-! ### arithmetic -/
def rAddG (K : PySem.W.Frag) : R2 := fun x y H Q => rI0 (fun i j => .int (i + j)) x y H Q ∨ (∃ i j, x = .str i ∧ y = .str j ∧ i.length + j.length ≤ sizeLine ∧ Q (.str (i ++ j)) H) ∨ rCat x y H Q ∨ rCatA K x y H Q
def gAdd : G2 := fun x y S K => match x, y with
  | .int i, .int j => K (.int (i + j)) S
  | .str a, .str b => a.length + b.length ≤ sizeLine ∧ K (.str (a ++ b)) S
  | .tup xs, .tup ys => xs.length + ys.length ≤ sizeLine ∧ K (.tup (xs ++ ys)) S
  | x, y => match view S x, view S y with
    | some (.lst xs), some (.lst ys) => xs.length + ys.length ≤ sizeLine ∧ K (.lst (xs ++ ys)) S
    | _, _ => False
theorem cat_imp [Tabl] {x y : V} {dx dy : Dat} {L : LL} {H : Hp} {S : Store} {T : List (Addr × HO)} {K : KE} {Q : VK} {xs ys : List Dat} (hs : SR H L S T) (px : L x dx) (py : L y dy) (e1 : view S dx = some (.lst xs)) (e2 : view S dy = some (.lst ys))
    (hl : xs.length + ys.length ≤ sizeLine) (h : K (.lst (xs ++ ys)) S) (hq : EOk L T K Q) : rCat x y H Q := by
  obtain ⟨a, vs, rfl, h1, s1, p1⟩ := hs.list px e1
  obtain ⟨b, ws, rfl, h2, s2, p2⟩ := s1.list (LaddL.le _ _ py) e2
  exact ⟨a, b, vs, ws, rfl, rfl, h1, h2, by rw [p1.length, p2.length]; exact hl, fun p hp => hq _ _ _ _ S ((LaddL.le.trans LaddL.le).trans Ladd.le) Ladd.here (s2.lst hp ((p1.le LaddL.le).append p2)) h⟩
theorem dop_add [Tabl] {X : Cx} : DOp X (binaryOp .Add) (rAddG X.K) gAdd := ⟨op_add.or (op_add_str.or (op_cat.or op_catA)), fun {x y dx dy L H S T K Q} hs px py h hq => by
  unfold gAdd at h
  split at h
  · exact .inl ⟨_, _, hs.vint px, hs.vint py, hq.flat hs (d := .int _) rfl h⟩
  · exact .inr (.inl ⟨_, _, hs.vstr px, hs.vstr py, h.1, hq.flat hs (d := .str _) rfl h.2⟩)
  · obtain ⟨a, vs, rfl, h1, s1, p1⟩ := hs.tuple px
    obtain ⟨b, ws, rfl, h2, s2, p2⟩ := s1.tuple (LaddL.le _ _ py)
    refine .inr (.inr (.inr ⟨a, b, vs, ws, rfl, rfl, .of h1, .of h2, by rw [p1.length, p2.length]; exact h.1, fun e => ?_, fun _ e => ?_, fun _ _ p hp => ?_⟩))
    · have e2 : ∀ zs : List Dat, Ls (LaddL L vs zs) vs zs → zs = [] := fun zs q => List.eq_nil_of_length_eq_zero (by rw [← q.length, e]; rfl)
      rw [e2 _ p1, List.nil_append] at h
      exact hq _ _ _ _ S (.refl L) py hs h.2
    · have e2 : ∀ zs : List Dat, vs.length = vs.length → ws.length = zs.length → zs = [] := fun zs _ q => List.eq_nil_of_length_eq_zero (by rw [← q, e]; rfl)
      rw [e2 _ rfl p2.length, List.append_nil] at h
      exact hq _ _ _ _ S (.refl L) px hs h.2
    · exact hq _ _ _ _ S ((LaddL.le.trans LaddL.le).trans Ladd.le) Ladd.here (s2.tup hp ((p1.le LaddL.le).append p2)) h.2
  · split at h
    · rename_i e1 e2
      exact .inr (.inr (.inl (cat_imp hs px py e1 e2 h.1 h.2 hq)))
    · exact h.elim⟩
def gInt (C : Int → Int → Prop) (f : Int → Int → Int) : G2 := fun x y S K => match x, y with
  | .int i, .int j => C i j ∧ K (.int (f i j)) S
  | _, _ => False
theorem int_imp [Tabl] {C : Int → Int → Prop} {f : Int → Int → Int} : OpI (rI C fun i j => .int (f i j)) (gInt C f) := fun {x y dx dy L H S T K Q} hs px py h hq => by
  unfold gInt at h
  split at h
  · exact ⟨_, _, hs.vint px, hs.vint py, h.1, hq.flat hs (d := .int _) rfl h.2⟩
  · exact h.elim
def gInt0 (f : Int → Int → Int) : G2 := fun x y S K => match x, y with
  | .int i, .int j => K (.int (f i j)) S
  | _, _ => False
theorem int0_imp [Tabl] {f : Int → Int → Int} : OpI (rI0 fun i j => .int (f i j)) (gInt0 f) := fun {x y dx dy L H S T K Q} hs px py h hq => by
  unfold gInt0 at h
  split at h
  · exact ⟨_, _, hs.vint px, hs.vint py, hq.flat hs (d := .int _) rfl h⟩
  · exact h.elim
theorem dop_sub [Tabl] {X : Cx} : DOp X (binaryOp .Sub) (rI0 fun i j => .int (i - j)) (gInt0 fun i j => i - j) := ⟨op_sub, int0_imp⟩
theorem dop_mul [Tabl] {X : Cx} : DOp X (binaryOp .Mult) (rI CMul fun i j => .int (i * j)) (gInt CMul fun i j => i * j) := ⟨op_mul, int_imp⟩
theorem dop_mod [Tabl] {X : Cx} : DOp X (binaryOp .Mod) (rI (fun _ j => 0 < j) fun i j => .int (i % j)) (gInt (fun _ j => 0 < j) fun i j => i % j) := ⟨op_mod, int_imp⟩
theorem dop_fdiv [Tabl] {X : Cx} : DOp X (binaryOp .FloorDiv) (rI CDiv fun i j => .int (i / j)) (gInt CDiv fun i j => i / j) := ⟨op_fdiv, int_imp⟩
theorem dop_pow [Tabl] {X : Cx} : DOp X (binaryOp .Pow) (rI CPow fun i j => .int (i ^ j.toNat)) (gInt CPow fun i j => i ^ j.toNat) := ⟨op_pow, int_imp⟩
theorem de_neg [Tabl] {X : Cx} {W : WX} {a : Expr} {ta : TE} {ua : UE} {pos : Pos} (ha : DE X W a ta ua) : DE X W (.UnaryOp .USub a pos) (tUn (rU fun i => .int (-i)) ta) (uUn (fun d S K => match d with
    | .int i => K (.int (-i)) S
    | _ => False) ua) := ⟨pe_un un_neg ha.run, imp_un (fun {x dx L H S T K Q} hs px h hq => by
  cases dx with
  | int i => exact ⟨i, hs.vint px, hq.flat hs (d := .int _) rfl h⟩
  | _ => exact h.elim) ha.imp⟩
/-! ### order -/
def ltS (a b : Str) : Bool := decide (a.cps.toList < b.cps.toList)
def gLt : G2 := fun x y S K => match x, y with
  | .int i, .int j => K (.bl (decide (i < j))) S
  | .str a, .str b => K (.bl (ltS a b)) S
  | _, _ => False
def gLe : G2 := fun x y S K => match x, y with
  | .int i, .int j => K (.bl (decide (i ≤ j))) S
  | .str a, .str b => K (.bl (!ltS b a)) S
  | _, _ => False
def gGt : G2 := fun x y S K => match x, y with
  | .int i, .int j => K (.bl (decide (j < i))) S
  | .str a, .str b => K (.bl (ltS b a)) S
  | _, _ => False
def gGe : G2 := fun x y S K => match x, y with
  | .int i, .int j => K (.bl (decide (j ≤ i))) S
  | .str a, .str b => K (.bl (!ltS a b)) S
  | _, _ => False
def rOrdG (f : Int → Int → Bool) (g : Str → Str → Bool) : R2 := fun x y H Q => rI0 (fun i j => .bl (f i j)) x y H Q ∨ (∃ i j, x = .str i ∧ y = .str j ∧ Q (.bl (g i j)) H)
theorem dop_lt [Tabl] {X : Cx} : DOp X (compareOp .Lt) (rOrdG (fun i j => decide (i < j)) ltS) gLt := ⟨op_lt.or op_lt_str, fun {x y dx dy L H S T K Q} hs px py h hq => by
  unfold gLt at h
  split at h
  · exact .inl ⟨_, _, hs.vint px, hs.vint py, hq.flat hs (d := .bl _) rfl h⟩
  · exact .inr ⟨_, _, hs.vstr px, hs.vstr py, hq.flat hs (d := .bl _) rfl h⟩
  · exact h.elim⟩
theorem dop_le [Tabl] {X : Cx} : DOp X (compareOp .LtE) (rOrdG (fun i j => decide (i ≤ j)) fun a b => !ltS b a) gLe := ⟨op_le.or op_le_str, fun {x y dx dy L H S T K Q} hs px py h hq => by
  unfold gLe at h
  split at h
  · exact .inl ⟨_, _, hs.vint px, hs.vint py, hq.flat hs (d := .bl _) rfl h⟩
  · exact .inr ⟨_, _, hs.vstr px, hs.vstr py, hq.flat hs (d := .bl _) rfl h⟩
  · exact h.elim⟩
theorem dop_gt [Tabl] {X : Cx} : DOp X (compareOp .Gt) (rOrdG (fun i j => decide (j < i)) fun a b => ltS b a) gGt := ⟨op_gt.or op_gt_str, fun {x y dx dy L H S T K Q} hs px py h hq => by
  unfold gGt at h
  split at h
  · exact .inl ⟨_, _, hs.vint px, hs.vint py, hq.flat hs (d := .bl _) rfl h⟩
  · exact .inr ⟨_, _, hs.vstr px, hs.vstr py, hq.flat hs (d := .bl _) rfl h⟩
  · exact h.elim⟩
theorem dop_ge [Tabl] {X : Cx} : DOp X (compareOp .GtE) (rOrdG (fun i j => decide (j ≤ i)) fun a b => !ltS a b) gGe := ⟨op_ge.or op_ge_str, fun {x y dx dy L H S T K Q} hs px py h hq => by
  unfold gGe at h
  split at h
  · exact .inl ⟨_, _, hs.vint px, hs.vint py, hq.flat hs (d := .bl _) rfl h⟩
  · exact .inr ⟨_, _, hs.vstr px, hs.vstr py, hq.flat hs (d := .bl _) rfl h⟩
  · exact h.elim⟩
/-! ### equality -/
mutual
/-- data as the library's data -/
inductive Py (S : Store) : Dat → PyData → Prop where
  | non : Py S .non .none
  | bl {b : Bool} : Py S (.bl b) (.bool b)
  | int {i : Int} : Py S (.int i) (.int i)
  | str {x : Str} : Py S (.str x) (.str x)
  | lst {xs : List Dat} {ps : List PyData} : Pys S xs ps → Py S (.lst xs) (.list ps)
  | tup {xs : List Dat} {ps : List PyData} : Pys S xs ps → Py S (.tup xs) (.tuple ps)
  | cell {n : Nat} {xs : List Dat} {ps : List PyData} : S[n]? = some (.lst xs) → Pys S xs ps → Py S (.cell n) (.list ps)
inductive Pys (S : Store) : List Dat → List PyData → Prop where
  | nil : Pys S [] []
  | cons {d : Dat} {ds : List Dat} {p : PyData} {ps : List PyData} : Py S d p → Pys S ds ps → Pys S (d :: ds) (p :: ps)
end
section
variable {H : Hp} {R rho : List Addr} {S : Store} {KF : PySem.W.Frag}
mutual
theorem Py.dp (hn : ∀ (m : Nat) a d, rho[m]? = some a → S[m]? = some d → Node H R rho a d) : ∀ {d : Dat} {p : PyData} {v : V}, Py S d p → RD H R rho d v → Dp KF H v p
  | _, _, _, .non, h => by simp only [RD] at h; subst h; exact .non
  | _, _, _, .bl, h => by simp only [RD] at h; subst h; exact .bl _
  | _, _, _, .int, h => by simp only [RD] at h; subst h; exact .int _
  | _, _, _, .str, h => by simp only [RD] at h; subst h; exact .str _
  | _, _, _, .lst q, h => by
    simp only [RD] at h
    obtain ⟨a, vs, rfl, _, e, r⟩ := h
    exact .lst (.of e) (Pys.dp hn q r)
  | _, _, _, .tup q, h => by
    simp only [RD] at h
    obtain ⟨a, vs, rfl, _, e, r⟩ := h
    exact .tup (.of e) (Pys.dp hn q r)
  | _, _, _, .cell hc q, h => by
    simp only [RD] at h
    obtain ⟨a, ha, rfl⟩ := h
    obtain ⟨vs, e, r⟩ := hn _ a _ ha hc
    exact .lst (.of e) (Pys.dp hn q r)
theorem Pys.dp (hn : ∀ (m : Nat) a d, rho[m]? = some a → S[m]? = some d → Node H R rho a d) : ∀ {ds : List Dat} {ps : List PyData} {vs : List V}, Pys S ds ps → RDs H R rho ds vs → DpAll KF H vs ps
  | _, _, _, .nil, h => by simp only [RDs] at h; subst h; exact .nil
  | _, _, _, .cons q qs, h => by
    simp only [RDs] at h
    obtain ⟨w, ws, rfl, h1, h2⟩ := h
    exact .cons (Py.dp hn q h1) (Pys.dp hn qs h2)
end
end
/-- flat pairs that == tells apart at once -/
def scalD : Dat → Dat → Option Bool
  | .int i, .int j => some (decide (i = j))
  | .str i, .str j => some (decide (i = j))
  | .bl i, .bl j => some (decide (i = j))
  | .non, .non => some true
  | .non, .int _ => some false | .int _, .non => some false | .non, .bl _ => some false | .bl _, .non => some false | .non, .str _ => some false | .str _, .non => some false
  | .int _, .str _ => some false | .str _, .int _ => some false | .bl _, .str _ => some false | .str _, .bl _ => some false
  | _, _ => none
theorem scalD_ok [Tabl] {H : Hp} {L : LL} {S : Store} {T : List (Addr × HO)} {x y : V} {dx dy : Dat} {b : Bool} (hs : SR H L S T) (px : L x dx) (py : L y dy) (h : scalD dx dy = some b) : scal x y = true ∧ decide (x = y) = b := by
  cases dx <;> cases dy <;> simp only [scalD, Option.some.injEq] at h <;> try (cases h) <;> try (injection h)
  all_goals first
    | (rw [hs.vint px, hs.vint py]; exact ⟨rfl, by simp⟩)
    | (rw [hs.vstr px, hs.vstr py]; exact ⟨rfl, by simp⟩)
    | (rw [hs.vbl px, hs.vbl py]; exact ⟨rfl, by simp⟩)
    | (rw [hs.vnon px, hs.vnon py]; exact ⟨rfl, by simp⟩)
    | (rw [hs.vnon px, hs.vint py]; exact ⟨rfl, by simp⟩)
    | (rw [hs.vint px, hs.vnon py]; exact ⟨rfl, by simp⟩)
    | (rw [hs.vnon px, hs.vbl py]; exact ⟨rfl, by simp⟩)
    | (rw [hs.vbl px, hs.vnon py]; exact ⟨rfl, by simp⟩)
    | (rw [hs.vnon px, hs.vstr py]; exact ⟨rfl, by simp⟩)
    | (rw [hs.vstr px, hs.vnon py]; exact ⟨rfl, by simp⟩)
    | (rw [hs.vint px, hs.vstr py]; exact ⟨rfl, by simp⟩)
    | (rw [hs.vstr px, hs.vint py]; exact ⟨rfl, by simp⟩)
    | (rw [hs.vbl px, hs.vstr py]; exact ⟨rfl, by simp⟩)
    | (rw [hs.vstr px, hs.vbl py]; exact ⟨rfl, by simp⟩)
def gEqB (f : Bool → Bool) : G2 := fun x y S K => match scalD x y with
  | some b => K (.bl (f b)) S
  | none => ∃ p q, Py S x p ∧ Py S y q ∧ SeqAt.shaped p = true ∧ SeqAt.shaped q = true ∧ K (.bl (f (PyData.eqv p q))) S
def gEq : G2 := gEqB id
def gNe : G2 := gEqB (!·)
theorem dop_eq [Tabl] {X : Cx} (hu : X.A.units + 64 < cLine) : DOp X (compareOp .Eq) (fun x y H Q => rEq x y H Q ∨ rEqD X.K x y H Q) gEq := ⟨op_eq.or (op_eqD hu), fun {x y dx dy L H S T K Q} hs px py h hq => by
  unfold gEq gEqB at h
  split at h
  · rename_i b e
    obtain ⟨h1, h2⟩ := scalD_ok hs px py e
    exact .inl ⟨h1, by rw [h2]; exact hq.flat hs (d := .bl _) rfl h⟩
  · obtain ⟨p, q, h1, h2, h3, h4, h⟩ := h
    obtain ⟨rho, z⟩ := id hs
    exact .inr ⟨p, q, h1.dp z.node (z.rd _ _ px), h2.dp z.node (z.rd _ _ py), h3, h4, hq.flat hs (d := .bl _) rfl h⟩⟩
theorem dop_ne [Tabl] {X : Cx} (hu : X.A.units + 64 < cLine) : DOp X (compareOp .NotEq) (fun x y H Q => rNe x y H Q ∨ rNeD X.K x y H Q) gNe := ⟨op_ne.or (op_neD hu), fun {x y dx dy L H S T K Q} hs px py h hq => by
  unfold gNe gEqB at h
  split at h
  · rename_i b e
    obtain ⟨h1, h2⟩ := scalD_ok hs px py e
    exact .inl ⟨h1, by rw [h2]; exact hq.flat hs (d := .bl _) rfl h⟩
  · obtain ⟨p, q, h1, h2, h3, h4, h⟩ := h
    obtain ⟨rho, z⟩ := id hs
    exact .inr ⟨p, q, h1.dp z.node (z.rd _ _ px), h2.dp z.node (z.rd _ _ py), h3, h4, hq.flat hs (d := .bl _) rfl h⟩⟩
/-! ### is None -/
def isNonD : Dat → Bool
  | .non => true
  | _ => false
def noRaw : Dat → Bool
  | .raw _ => false
  | _ => true
theorem SR.isNon [Tabl] {H : Hp} {L : LL} {S : Store} {T : List (Addr × HO)} {v : V} {d : Dat} (hs : SR H L S T) (p : L v d) (hr : noRaw d = true) : decide (v = .non) = isNonD d := by
  obtain ⟨rho, x⟩ := hs
  have q := x.rd _ _ p
  cases d with
  | raw w => cases hr
  | non => simp only [RD] at q; subst q; rfl
  | bl b => simp only [RD] at q; subst q; rfl
  | int b => simp only [RD] at q; subst q; rfl
  | str b => simp only [RD] at q; subst q; rfl
  | lst xs => simp only [RD] at q; obtain ⟨a, vs, rfl, _⟩ := q; rfl
  | tup xs => simp only [RD] at q; obtain ⟨a, vs, rfl, _⟩ := q; rfl
  | dct ks xs => simp only [RD] at q; obtain ⟨a, vs, rfl, _⟩ := q; rfl
  | dtt ks xs => simp only [RD] at q; obtain ⟨a, vs, rfl, _⟩ := q; rfl
  | sq ks xs => simp only [RD] at q; obtain ⟨a, rfl, _⟩ := q; rfl
  | ins C ks xs => simp only [RD] at q; obtain ⟨a, dx, vs, rfl, _⟩ := q; rfl
  | xd ks xs => simp only [RD] at q; obtain ⟨a, vs, rfl, _⟩ := q; rfl
  | cell n => simp only [RD] at q; obtain ⟨a, _, rfl⟩ := q; rfl
  | fn l cl => simp only [RD] at q; obtain ⟨a, rfl, _⟩ := q; rfl
  | exv a d ks xs => simp only [RD] at q; obtain ⟨rfl, _⟩ := q; rfl
def gIs (f : Bool → Bool) : G2 := fun x y S K => match y with
  | .non => noRaw x = true ∧ K (.bl (f (isNonD x))) S
  | _ => False
theorem dop_is [Tabl] {X : Cx} : DOp X (compareOp .Is) (fun x y H Q => y = .non ∧ Q (.bl (decide (x = .non))) H) (gIs id) := ⟨op_isN, fun {x y dx dy L H S T K Q} hs px py h hq => by
  unfold gIs at h
  split at h
  · refine ⟨hs.vnon py, ?_⟩
    rw [hs.isNon px h.1]
    exact hq.flat hs (d := .bl _) rfl h.2
  · exact h.elim⟩
theorem dop_isnot [Tabl] {X : Cx} : DOp X (compareOp .IsNot) (fun x y H Q => y = .non ∧ Q (.bl (!decide (x = .non))) H) (gIs (!·)) := ⟨op_notN, fun {x y dx dy L H S T K Q} hs px py h hq => by
  unfold gIs at h
  split at h
  · refine ⟨hs.vnon py, ?_⟩
    rw [hs.isNon px h.1]
    exact hq.flat hs (d := .bl _) rfl h.2
  · exact h.elim⟩
/-! ### in -/
/-- one sign -/
def sgn (c : Nat) : Str := ⟨#[c]⟩
def seqD (S : Store) : Dat → Option (List Dat)
  | .tup xs => some xs
  | .lst xs => some xs
  | .cell n => match S[n]? with
    | some (.lst xs) => some xs
    | _ => none
  | _ => none
theorem SR.seq [Tabl] {H : Hp} {L : LL} {S : Store} {T : List (Addr × HO)} {v : V} {d : Dat} {ds : List Dat} {KF : PySem.W.Frag} (hs : SR H L S T) (p : L v d) (e : seqD S d = some ds) :
    ∃ a vs, v = .ref a ∧ (SqL KF H a vs ∨ SqT KF H a vs) ∧ SR H (LaddL L vs ds) S T ∧ Ls (LaddL L vs ds) vs ds := by
  cases d with
  | tup xs => simp [seqD] at e; subst e; obtain ⟨a, vs, h1, h2, h3⟩ := hs.tuple p; exact ⟨a, vs, h1, .inr (.of h2), h3⟩
  | lst xs => simp [seqD] at e; subst e; obtain ⟨a, vs, h1, h2, h3⟩ := hs.list p rfl; exact ⟨a, vs, h1, .inl (.of h2), h3⟩
  | cell n =>
    have e : (match S[n]? with
      | some (.lst xs) => some xs
      | _ => none) = some ds := e
    cases q : S[n]? with
    | none => rw [q] at e; cases e
    | some c =>
      rw [q] at e
      cases c with
      | lst xs =>
        injection e with e
        subst e
        obtain ⟨a, vs, h1, h2, h3⟩ := hs.list p (ds := xs) q
        exact ⟨a, vs, h1, .inl (.of h2), h3⟩
      | _ => cases e
  | _ => simp [seqD] at e
/-- what «in» asks of the item and a list's flat items, by values -/
def inF (x : Dat) (xs : List Dat) : Option Bool := match flat? x, xs.mapM flat? with
  | some v, some vs => some (inV v vs)
  | _, _ => none
theorem flatV_of {d : Dat} {w : V} (h : flat? d = some w) : flatV w = true := by
  cases d <;> simp [flat?] at h <;> subst h <;> rfl
theorem flatsV_of : ∀ {ds : List Dat} {ws : List V}, ds.mapM flat? = some ws → ws.all flatV = true
  | [], ws, h => by simp at h; subst h; rfl
  | d :: ds, ws, h => by
    rw [List.mapM_cons] at h
    cases e1 : flat? d with
    | none => rw [e1] at h; cases h
    | some w =>
      cases e2 : ds.mapM flat? with
      | none => rw [e1, e2] at h; cases h
      | some us =>
        rw [e1, e2] at h
        injection h with h
        subst h
        rw [List.all_cons, flatV_of e1, flatsV_of e2]
        rfl
def gIn (f : Bool → Bool) : G2 := fun x y S K => match x, y with
  | .str a, .str z => ∃ c, a = sgn c ∧ K (.bl (f (decide (c ∈ z.cps.toList)))) S
  | x, y => ∃ xs b, seqD S y = some xs ∧ inF x xs = some b ∧ K (.bl (f b)) S
theorem in_imp [Tabl] {x y : V} {dx dy : Dat} {L : LL} {H : Hp} {S : Store} {T : List (Addr × HO)} {K : KE} {Q : VK} {xs : List Dat} {b neg : Bool} {KF : PySem.W.Frag} (hs : SR H L S T) (px : L x dx) (py : L y dy) (e1 : seqD S dy = some xs) (e2 : inF dx xs = some b)
    (h : K (.bl (if neg then !b else b)) S) (hq : EOk L T K Q) : rIn KF neg x y H Q := by
  obtain ⟨a, vs, rfl, h1, s1, p1⟩ := hs.seq (KF := KF) py e1
  unfold inF at e2
  cases f1 : flat? dx with
  | none => rw [f1] at e2; cases e2
  | some w =>
    cases f2 : xs.mapM flat? with
    | none => rw [f1, f2] at e2; cases e2
    | some ws =>
      rw [f1, f2] at e2
      injection e2 with e2
      have ev : vs = ws := p1.flats s1 f2
      subst ev
      rw [hs.vflat f1 px]
      refine ⟨a, vs, rfl, h1, flatV_of f1, flatsV_of f2, ?_⟩
      rw [e2]
      exact hq.flat hs (d := .bl _) rfl h
def rInG (K : PySem.W.Frag) (neg : Bool) : R2 := fun x y H Q => (∃ (c : Nat) (z : Str), x = .str ⟨#[c]⟩ ∧ y = .str z ∧ Q (.bl (if neg then !decide (c ∈ z.cps.toList) else decide (c ∈ z.cps.toList))) H) ∨ rIn K neg x y H Q
theorem dop_in [Tabl] {X : Cx} : DOp X (compareOp .In) (rInG X.K false) (gIn id) := ⟨(show OpR X (compareOp .In) (fun x y H Q => (∃ (c : Nat) (z : Str), x = .str ⟨#[c]⟩ ∧ y = .str z ∧ Q (.bl (decide (c ∈ z.cps.toList))) H) ∨ rIn X.K false x y H Q) from op_in_sign.or op_in_seq), fun {x y dx dy L H S T K Q} hs px py h hq => by
  unfold gIn at h
  split at h
  · obtain ⟨c, rfl, h⟩ := h
    exact .inl ⟨c, _, hs.vstr px, hs.vstr py, hq.flat hs (d := .bl _) rfl h⟩
  · obtain ⟨xs, b, e1, e2, h⟩ := h
    exact .inr (in_imp hs px py e1 e2 h hq)⟩
theorem dop_notin [Tabl] {X : Cx} : DOp X (compareOp .NotIn) (rInG X.K true) (gIn (!·)) := ⟨(show OpR X (compareOp .NotIn) (fun x y H Q => (∃ (c : Nat) (z : Str), x = .str ⟨#[c]⟩ ∧ y = .str z ∧ Q (.bl (!decide (c ∈ z.cps.toList))) H) ∨ rIn X.K true x y H Q) from op_notIn_sign.or op_notIn_seq), fun {x y dx dy L H S T K Q} hs px py h hq => by
  unfold gIn at h
  split at h
  · obtain ⟨c, rfl, h⟩ := h
    exact .inl ⟨c, _, hs.vstr px, hs.vstr py, hq.flat hs (d := .bl _) rfl h⟩
  · obtain ⟨xs, b, e1, e2, h⟩ := h
    exact .inr (in_imp hs px py e1 e2 h hq)⟩
/-! ### subscripts, slices -/
def gIx : G2 := fun x y S K => match x, y with
  | .str z, .int i => z.length ≤ sizeLine ∧ ∃ c, atI z.cps.toList i = some c ∧ K (.str (sgn c)) S
  | x, .int i => ∃ xs d, seqD S x = some xs ∧ atI xs i = some d ∧ K d S
  | _, _ => False
theorem atI_ls {L : LL} {vs : List V} {ds : List Dat} {i : Int} {d : Dat} (p : Ls L vs ds) (h : atI ds i = some d) : ∃ v, atI vs i = some v ∧ L v d := by
  unfold atI at h ⊢
  rw [p.length]
  cases e : ixN ds.length i with
  | none => rw [e] at h; cases h
  | some j =>
    rw [e] at h
    obtain ⟨v, h1, h2⟩ := p.get (i := j) (d := d) h
    exact ⟨v, h1, h2⟩
theorem ix_imp [Tabl] {KF : PySem.W.Frag} : OpI (rIx KF) gIx := fun {x y dx dy L H S T K Q} hs px py h hq => by
  unfold gIx at h
  split at h
  · obtain ⟨h1, c, h2, h⟩ := h
    exact .inr (.inr ⟨_, _, c, hs.vstr px, hs.vint py, h1, h2, hq.flat hs (d := .str _) rfl h⟩)
  · obtain ⟨xs, d, e1, e2, h⟩ := h
    obtain ⟨a, vs, rfl, h1, s1, p1⟩ := hs.seq (KF := KF) px e1
    obtain ⟨v, h2, h3⟩ := atI_ls p1 e2
    rcases h1 with h1 | h1
    · exact .inl ⟨a, vs, _, v, rfl, hs.vint py, h1, h2, hq _ _ _ _ S LaddL.le h3 s1 h⟩
    · exact .inr (.inl ⟨a, vs, _, v, rfl, hs.vint py, h1, h2, hq _ _ _ _ S LaddL.le h3 s1 h⟩)
  · exact h.elim
section
variable {X : Cx} {W : WX} {a b : Expr} {ta tb : TE} {ua ub : UE} {pos : Pos}
theorem de_ix [Tabl] (ha : DE X W a ta ua) (hb : DE X W b tb ub) (hs : PlainIx b := by exact fun _ _ => rfl) : DE X W (.Subscript a b pos) (tOp (rIx X.K) ta tb) (uOp gIx ua ub) := ⟨pe_ix ix_seq ha.run hb.run hs, imp_op ix_imp ha.imp hb.imp⟩
/-- a slice's part -/
abbrev UO := Env' → Store → (Option Int → Store → Prop) → KX → Prop
def ImpO [Tabl] (W : WX) (t : TO) (u : UO) : Prop := ∀ {sg dl L H S T K X Q}, EnvIn sg dl L → SR H L S T → u dl S K X → (∀ o L' H' S', Lle L L' → SR H' L' S' T → K o S' → Q o H') → XOk W sg L T X → t sg H Q
structure DO [Tabl] (X : Cx) (W : WX) (e : Option Expr) (t : TO) (u : UO) : Prop where
  run : PO X e t
  imp : ImpO W t u
def uNo : UO := fun _ S K _ => K none S
def uPart (ua : UE) : UO := fun dl S K X => ua dl S (fun d S1 => match d with
  | .int i => K (some i) S1
  | _ => False) X
theorem do_none [Tabl] : DO X W none tNoPart uNo := ⟨po_none, fun {sg dl L H S T K X Q} _ hs h hq _ => hq none L H S (.refl L) hs h⟩
theorem do_some [Tabl] (ha : DE X W a ta ua) : DO X W (some a) (tPart ta) (uPart ua) := ⟨po_some ha.run, fun {sg dl L H S T K X Q} he hs h hq hx => ha.imp he hs h (fun v d L1 H1 S1 l1 p1 s1 h1 => by
  cases d with
  | int i => exact ⟨i, s1.vint p1, hq _ L1 H1 S1 l1 s1 h1⟩
  | _ => exact h1.elim) hx⟩
def cutD (xs : List Dat) (lo hi : Option Int) : List Dat := (xs.drop (HT.sIx xs.length 0 lo)).take (HT.sIx xs.length xs.length hi - HT.sIx xs.length 0 lo)
theorem Ls.drop {L : LL} : ∀ {vs : List V} {ds : List Dat} (n : Nat), Ls L vs ds → Ls L (vs.drop n) (ds.drop n)
  | _, _, 0, h => h
  | [], [], n + 1, _ => True.intro
  | v :: vs, d :: ds, n + 1, h => Ls.drop n h.2
  | [], _ :: _, _ + 1, h => h.elim
  | _ :: _, [], _ + 1, h => h.elim
theorem Ls.take {L : LL} : ∀ {vs : List V} {ds : List Dat} (n : Nat), Ls L vs ds → Ls L (vs.take n) (ds.take n)
  | _, _, 0, h => by simp [Ls]
  | [], [], n + 1, _ => True.intro
  | v :: vs, d :: ds, n + 1, h => ⟨h.1, Ls.take n h.2⟩
  | [], _ :: _, _ + 1, h => h.elim
  | _ :: _, [], _ + 1, h => h.elim
theorem Ls.cut {L : LL} {vs : List V} {ds : List Dat} {lo hi : Option Int} (h : Ls L vs ds) : Ls L (cutV vs lo hi) (cutD ds lo hi) := by
  unfold cutV cutD
  rw [h.length]
  exact Ls.take _ (Ls.drop _ h)
def gSl (x : Dat) (lo hi : Option Int) (S : Store) (K : KE) : Prop := match x with
  | .str z => z.length ≤ sizeLine ∧ K (.str (cutS z lo hi)) S
  | .tup xs => K (.tup (cutD xs lo hi)) S
  | x => match view S x with
    | some (.lst xs) => K (.lst (cutD xs lo hi)) S
    | _ => False
def uSl (ua : UE) (ul uh : UO) : UE := fun dl S K X => ua dl S (fun d S1 => ul dl S1 (fun l S2 => uh dl S2 (fun h S3 => gSl d l h S3 K) X) X) X
/-- of the script alone -/
def uSlQ (KF : PySem.W.Frag) (ua : UE) (ul uh : UO) : UE := fun dl S K X => ua dl S (fun d S1 => ul dl S1 (fun l S2 => uh dl S2 (fun h S3 => ∃ (ns ms : List Int), d = .sq KF ns ∧ cutV (ns.map V.int) l h = ms.map V.int ∧ K (.lst (ms.map .int)) S3) X) X) X
theorem sq_at [Tabl] {H : Hp} {L : LL} {S : Store} {T : List (Addr × HO)} {v : V} {K' : PySem.W.Frag} {ns : List Int} (hs : SR H L S T) (p : L v (.sq K' ns)) : ∃ a, v = .ref a ∧ SqL K' H a (ns.map V.int) := by
  obtain ⟨rho, x⟩ := hs
  have q := x.rd _ _ p
  simp only [RD] at q
  obtain ⟨a, rfl, q⟩ := q
  refine ⟨a, rfl, ?_⟩
  rcases q with ⟨_, q⟩ | q
  · exact .inl q
  · rcases q with q | q
    · rcases q with q | ⟨o, q⟩ <;> cases q
    · exact .inr q
theorem Ls.flatI [Tabl] {L : LL} {H : Hp} {S : Store} {T : List (Addr × HO)} (s : SR H L S T) : ∀ ns : List Int, ∃ L', Lle L L' ∧ Ls L' (ns.map V.int) (ns.map Dat.int) ∧ SR H L' S T := fun ns => s.flats (by
    induction ns with
    | nil => trivial
    | cons n ns ih => exact ⟨rfl, ih⟩)
def rSlG (K' : PySem.W.Frag) : V → Option Int → Option Int → Hp → VK → Prop := fun x lo hi H Q => rSlL K' x lo hi H Q ∨ rSlS x lo hi H Q ∨ rSlA K' x lo hi H Q
theorem cutV_ints (ns : List Int) (lo hi : Option Int) : ∃ ms : List Int, cutV (ns.map V.int) lo hi = ms.map V.int := by
  unfold cutV
  rw [← List.map_drop, ← List.map_take]
  exact ⟨_, rfl⟩
theorem sl_imp [Tabl] {L : LL} {H : Hp} {S : Store} {T : List (Addr × HO)} {x : V} {d : Dat} {lo hi : Option Int} {K : KE} {Q : VK} {KF : PySem.W.Frag} (hs : SR H L S T) (p : L x d) (h : gSl d lo hi S K) (hq : EOk L T K Q) : rSlG KF x lo hi H Q := by
  unfold gSl at h
  split at h
  · exact .inr (.inl ⟨_, hs.vstr p, h.1, hq.flat hs (d := .str _) rfl h.2⟩)
  · obtain ⟨a, vs, rfl, h1, s1, p1⟩ := hs.tuple p
    refine .inr (.inr ⟨a, vs, rfl, .of h1, fun e => ?_, fun _ q hp => hq _ _ _ _ S (LaddL.le.trans Ladd.le) Ladd.here (s1.tup hp p1.cut) h⟩)
    have e2 : ∀ zs : List Dat, vs.length = zs.length → cutD zs lo hi = zs := fun zs q => by
      unfold cutD
      rw [← q, e.1, e.2]
      simp [q]
    rw [e2 _ p1.length] at h
    exact hq _ _ _ _ S (.refl L) p hs h
  · split at h
    · rename_i xs e
      obtain ⟨a, vs, rfl, h1, s1, p1⟩ := hs.list p e
      exact .inl ⟨a, vs, rfl, .of h1, fun q hp => hq _ _ _ _ S (LaddL.le.trans Ladd.le) Ladd.here (s1.lst hp p1.cut) h⟩
    · exact h.elim
theorem de_sl [Tabl] {lo hi : Option Expr} {tl th : TO} {ul uh : UO} {p2 : Pos} (ha : DE X W a ta ua) (hl : DO X W lo tl ul) (hh : DO X W hi th uh) : DE X W (.Subscript a (.Slice lo hi none p2) pos) (tSl (rSlG X.K) ta tl th) (uSl ua ul uh) :=
  ⟨pe_slice (sl_list.or (sl_str.or sl_tupA)) ha.run hl.run hh.run, fun {sg dl L H S T K X' Q} he hs h hq hx =>
    ha.imp he hs h (fun v d L1 H1 S1 l1 p1 s1 h1 => hl.imp (he.le l1) s1 h1 (fun l L2 H2 S2 l2 s2 h2 => hh.imp ((he.le l1).le l2) s2 h2 (fun h L3 H3 S3 l3 s3 h3 => sl_imp s3 (l3 _ _ (l2 _ _ p1)) h3 (hq.le ((l1.trans l2).trans l3))) (hx.le (l1.trans l2))) (hx.le l1)) hx⟩
theorem de_slQ [Tabl] {lo hi : Option Expr} {tl th : TO} {ul uh : UO} {p2 : Pos} (ha : DE X W a ta ua) (hl : DO X W lo tl ul) (hh : DO X W hi th uh) : DE X W (.Subscript a (.Slice lo hi none p2) pos) (tSl (rSlL X.K) ta tl th) (uSlQ X.K ua ul uh) :=
  ⟨pe_slice sl_list ha.run hl.run hh.run, fun {sg dl L H S T K X' Q} he hs h hq hx =>
    ha.imp he hs h (fun v d L1 H1 S1 l1 p1 s1 h1 => hl.imp (he.le l1) s1 h1 (fun l L2 H2 S2 l2 s2 h2 => hh.imp ((he.le l1).le l2) s2 h2 (fun h L3 H3 S3 l3 s3 h3 => by
      obtain ⟨ns, ms, rfl, em, h3⟩ := h3
      obtain ⟨a, rfl, hq'⟩ := sq_at s3 (l3 _ _ (l2 _ _ p1))
      obtain ⟨L4, l4, p4, s4⟩ := Ls.flatI s3 ms
      exact ⟨a, _, rfl, hq', fun q hp => by rw [em]; exact hq _ _ _ _ S3 ((((l1.trans l2).trans l3).trans l4).trans Ladd.le) Ladd.here (s4.lst hp p4) h3⟩) (hx.le (l1.trans l2))) (hx.le l1)) hx⟩
end
end DL
/-! DL6: built-ins and methods over data. -/
namespace DL
open PySem L2
structure DCb [Tabl] (X : Cx) (f : Value) (r : List V → Hp → VK → Prop) (g : GL) : Prop where
  run : CallR X f r
  imp : CbI r g
section
variable {X : Cx} {W : WX} {e : Expr} {es : List Expr} {t : TA} {u : UA} {r : List V → Hp → VK → Prop} {g : GL} {x : Str} {id T : String} {p pos : Pos}
theorem imp_cb [Tabl] (hc : CbI r g) (ha : ImpA W t u) : ImpE W (tCB r t) (uCB g u) := fun {sg dl L H S T K X Q} he hs h hq hx => ha he hs h (fun vs ds L1 H1 S1 l1 p1 s1 h1 => hc s1 p1 h1 (hq.le l1)) hx
theorem de_callB [Tabl] (hc : DCb X (.builtin id) r g) (hm : X.mg x = none) (ha : DA X W (e :: es) t u) (hg : Gl X x := by rfl) (hv : bootBuiltins x = some (.builtin id) := by decide +kernel) (hn : x ≠ "__name__" := by decide) (hdb : (x == ("__debug__" : Str)) = false := by decide)
    (he : starEach (e :: es) X.env = (false, eval e X.env) :: starEach es X.env := by rfl) (hpl : (backTo pos (starEach es X.env)).any (·.1) = false := by rfl) :
    DE X W (.Call (.Name x p) (e :: es) [] pos) (tCB r t) (uCB g u) := ⟨pe_callB hc.run hg hm hv ha.run hn hdb he hpl, imp_cb hc.imp ha.imp⟩
theorem de_callT [Tabl] (hc : DCb X (.type T) r g) (hm : X.mg x = none) (ha : DA X W (e :: es) t u) (hg : Gl X x := by rfl) (hv : bootBuiltins x = some (.type T) := by decide +kernel) (hn : x ≠ "__name__" := by decide) (hdb : (x == ("__debug__" : Str)) = false := by decide)
    (he : starEach (e :: es) X.env = (false, eval e X.env) :: starEach es X.env := by rfl) (hpl : (backTo pos (starEach es X.env)).any (·.1) = false := by rfl) :
    DE X W (.Call (.Name x p) (e :: es) [] pos) (tCB r t) (uCB g u) := ⟨pe_callTy hc.run hg hm hv ha.run hn hdb he hpl, imp_cb hc.imp ha.imp⟩
/-- a built-in class as a value -/
theorem de_ty [Tabl] {T : String} (hm : X.mg x = none) (hg : Gl X x := by rfl) (hv : bootBuiltins x = some (.type T) := by decide +kernel) (hn : x ≠ "__name__" := by decide) (hd : (x == ("__debug__" : Str)) = false := by decide) : DE X W (.Name x pos) (tC (.ty T)) (uC (.raw (.ty T))) := ⟨pe_bltn hg hm hv rfl hn hd, imp_c (d := .raw (.ty T)) (v := .ty T) rfl⟩
/-- a class, a def of the text as a value -/
theorem de_own [Tabl] {a : Addr} (hm : X.mg x = some (.ref a)) (hg : Gl X x := by rfl) (hd : (x == ("__debug__" : Str)) = false := by decide) : DE X W (.Name x pos) (tC (.ref a)) (uC (.raw (.ref a))) := ⟨pe_glob hg hm rfl hd, imp_c (d := .raw (.ref a)) (v := .ref a) rfl⟩
end
/-! ### len, int, str, abs -/
def gLen : GL := fun ds S K => match ds with
  | [.str z] => z.length ≤ sizeLine ∧ K (.int z.length) S
  | [d] => ∃ xs, seqD S d = some xs ∧ K (.int xs.length) S
  | _ => False
theorem dcb_len [Tabl] {X : Cx} : DCb X (.builtin "len") (fun xs H Q => ∃ x n, xs = [x] ∧ LenV X.K x H n ∧ Q (.int n) H) gLen := ⟨call_len, fun {xs ds L H S T K Q} hs p h hq => by
  unfold gLen at h
  split at h
  · obtain ⟨v, rfl, pv⟩ := p.one
    rw [hs.vstr pv]
    exact ⟨_, _, rfl, ⟨h.1, rfl⟩, hq.flat hs (d := .int _) rfl h.2⟩
  · obtain ⟨v, rfl, pv⟩ := p.one
    obtain ⟨ys, e, h⟩ := h
    obtain ⟨a, vs, rfl, h1, s1, p1⟩ := hs.seq (KF := X.K) pv e
    refine ⟨_, ys.length, rfl, ?_, hq.flat hs (d := .int _) rfl h⟩
    rcases h1 with h1 | h1
    · exact .inl ⟨vs, h1, p1.length.symm⟩
    · exact .inr ⟨vs, h1, p1.length.symm⟩
  · exact h.elim⟩
def gInt1 : GL := fun ds S K => match ds with
  | [.int i] => K (.int i) S
  | [.bl b] => K (.int (if b then 1 else 0)) S
  | [.str a] => ∃ n, PySem.intText? a = some n ∧ a.length ≤ 640 ∧ K (.int n) S
  | _ => False
theorem CallR.or {X : Cx} {f : Value} {r r' : List V → Hp → VK → Prop} (h : CallR X f r) (h' : CallR X f r') : CallR X f (fun xs H Q => r xs H Q ∨ r' xs H Q) := by
  intro pins s sg H xs us Q I r q
  rcases q with q | q
  · exact h pins s sg H xs us Q I r q
  · exact h' pins s sg H xs us Q I r q
theorem dcb_int [Tabl] {X : Cx} : DCb X (.type "int") (fun xs H Q => ((∃ i, xs = [.int i] ∧ Q (.int i) H) ∨ ∃ k, xs = [.bl k] ∧ Q (.int (if k then 1 else 0)) H) ∨ ∃ a n, xs = [.str a] ∧ PySem.intText? a = some n ∧ a.length ≤ 640 ∧ Q (.int n) H) gInt1 := ⟨CallR.or call_int1 call_int_str, fun {xs ds L H S T K Q} hs p h hq => by
  unfold gInt1 at h
  split at h
  · obtain ⟨v, rfl, pv⟩ := p.one
    rw [hs.vint pv]
    exact .inl (.inl ⟨_, rfl, hq.flat hs (d := .int _) rfl h⟩)
  · obtain ⟨v, rfl, pv⟩ := p.one
    rw [hs.vbl pv]
    exact .inl (.inr ⟨_, rfl, hq.flat hs (d := .int _) rfl h⟩)
  · obtain ⟨v, rfl, pv⟩ := p.one
    obtain ⟨n, h1, h2, h⟩ := h
    rw [hs.vstr pv]
    exact .inr ⟨_, n, rfl, h1, h2, hq.flat hs (d := .int _) rfl h⟩
  · exact h.elim⟩
def gStr1 : GL := fun ds S K => match ds with
  | [.int i] => i.natAbs.log2 < 1920 ∧ K (.str (toString i)) S
  | _ => False
theorem dcb_str [Tabl] {X : Cx} : DCb X (.type "str") (fun xs H Q => ∃ i, xs = [.int i] ∧ i.natAbs.log2 < 1920 ∧ Q (.str (toString i)) H) gStr1 := ⟨call_str_int, fun {xs ds L H S T K Q} hs p h hq => by
  unfold gStr1 at h
  split at h
  · obtain ⟨v, rfl, pv⟩ := p.one
    rw [hs.vint pv]
    exact ⟨_, rfl, h.1, hq.flat hs (d := .str _) rfl h.2⟩
  · exact h.elim⟩
def gAbs : GL := fun ds S K => match ds with
  | [.int i] => K (.int (if i < 0 then -i else i)) S
  | _ => False
theorem dcb_abs [Tabl] {X : Cx} : DCb X (.builtin "abs") (fun xs H Q => ∃ i, xs = [.int i] ∧ Q (.int (if i < 0 then -i else i)) H) gAbs := ⟨call_abs, fun {xs ds L H S T K Q} hs p h hq => by
  unfold gAbs at h
  split at h
  · obtain ⟨v, rfl, pv⟩ := p.one
    rw [hs.vint pv]
    exact ⟨_, rfl, hq.flat hs (d := .int _) rfl h⟩
  · exact h.elim⟩
/-! ### isinstance -/
def tyS (S : Store) : Dat → Option String
  | .non => some "NoneType" | .bl _ => some "bool" | .int _ => some "int" | .str _ => some "str"
  | .lst _ => some "list" | .tup _ => some "tuple"
  | .cell n => match S[n]? with
    | some (.lst _) => some "list"
    | some (.dct _ _) => some "dict"
    | _ => none
  | _ => none
def isB (t u : String) : Bool := t == u || (t == "bool" && u == "int")
def tyNames : List String := ["NoneType", "bool", "int", "str", "list", "tuple", "dict"]
theorem isB_ok {t u : String} (h : t ∈ tyNames) (k : u ∈ tyNames) : kitB t u = some (isB t u) := by
  have : tyNames.all (fun t => tyNames.all fun u => decide (kitB t u = some (isB t u))) = true := by decide +kernel
  exact of_decide_eq_true (List.all_eq_true.mp (List.all_eq_true.mp this t h) u k)
/-- what isinstance asks of an own class -/
structure InsTy (K : PySem.W.Frag) (C : Addr) : Prop where
  cl : Cls K C
  ha : PySem.W.findIn K (.ref C) "__class__" = some (some (.builtin "object.__class__"))
  hn : PySem.W.specialIn K (.builtin "object.__class__") "__get__" = some (some (.builtin "getset_descriptor.__get__"))
  htk : PySem.W.takesIn K (.builtin "object.__class__") = some true
  hm : PySem.W.mroIn K C (.type "object") = some true
def insC (S : Store) : Dat → Option Addr
  | .ins C _ _ => some C
  | .cell n => match S[n]? with
    | some (.ins C _ _) => some C
    | _ => none
  | _ => none
def clsV : Dat → Option Value
  | .raw (.ty n) => some (.type n)
  | .raw (.ref C) => some (.ref C)
  | _ => none
def isOne (KF : PySem.W.Frag) (S : Store) (d c : Dat) (b : Bool) : Prop := match tyS S d, c with
  | some t, .raw (.ty u) => u ∈ tyNames ∧ b = isB t u
  | some t, .raw (.ref C) => PySem.W.kitOne KF (.type t) (.ref C) = some b
  | none, c => ∃ C u, insC S d = some C ∧ InsTy KF C ∧ clsV c = some u ∧ PySem.W.kitOne KF (.ref C) u = some b
  | _, _ => False
/-- the answer for several classes -/
def isAny (KF : PySem.W.Frag) (S : Store) (d : Dat) : List Dat → Bool → Prop
  | [], b => b = false
  | c :: cs, b => ∃ k, isOne KF S d c k ∧ (k = true → b = true) ∧ (k = false → isAny KF S d cs b)
def gIsi (KF : PySem.W.Frag) : GL := fun ds S K => match ds with
  | [d, .tup (c :: cs)] => (c :: cs).all (fun c => (clsV c).isSome) = true ∧ ∃ b, isAny KF S d (c :: cs) b ∧ K (.bl b) S
  | [d, c] => ∃ b, isOne KF S d c b ∧ K (.bl b) S
  | _ => False
section
variable {KF : PySem.W.Frag} {H : Hp} {L : LL} {S : Store} {T : List (Addr × HO)} {v : V} {d c : Dat}
theorem tyS_ok [Tabl] (hs : SR H L S T) (p : L v d) {t : String} (h : tyS S d = some t) : TyX KF H v (.type t) ∧ t ∈ tyNames := by
  cases d with
  | non => simp [tyS] at h; subst h; rw [hs.vnon p]; exact ⟨.base .non, by decide⟩
  | bl b => simp [tyS] at h; subst h; rw [hs.vbl p]; exact ⟨.base (.bl _), by decide⟩
  | int b => simp [tyS] at h; subst h; rw [hs.vint p]; exact ⟨.base (.int _), by decide⟩
  | str b => simp [tyS] at h; subst h; rw [hs.vstr p]; exact ⟨.base (.str _), by decide⟩
  | lst xs => simp [tyS] at h; subst h; obtain ⟨a, vs, rfl, e, _⟩ := hs.list p rfl; exact ⟨.base (.lst e), by decide⟩
  | tup xs => simp [tyS] at h; subst h; obtain ⟨a, vs, rfl, e, _⟩ := hs.tuple p; exact ⟨.base (.tup e), by decide⟩
  | cell n =>
    have h : (match S[n]? with
      | some (.lst _) => some "list"
      | some (.dct _ _) => some "dict"
      | _ => none) = some t := h
    cases q : S[n]? with
    | none => rw [q] at h; cases h
    | some c =>
      rw [q] at h
      cases c with
      | lst xs =>
        injection h with h
        subst h
        obtain ⟨a, vs, rfl, e, _⟩ := hs.list (d := .cell n) (ds := xs) p q
        exact ⟨.base (.lst e), by decide⟩
      | dct ks xs =>
        injection h with h
        subst h
        obtain ⟨rho, x⟩ := hs
        obtain ⟨a, ha, rfl⟩ := x.at_ p
        obtain ⟨vs, e, _⟩ := x.node n a _ ha q
        exact ⟨.base (.dK e), by decide⟩
      | _ => cases h
  | _ => simp [tyS] at h
theorem insC_ok [Tabl] (hs : SR H L S T) (p : L v d) {C : Addr} (h : insC S d = some C) (I : InsTy KF C) : TyX KF H v (.ref C) := by
  obtain ⟨rho, x⟩ := hs
  cases d with
  | ins D ns xs =>
    simp [insC] at h
    subst h
    have q := x.rd _ _ p
    simp only [RD] at q
    obtain ⟨a, dx, vs, rfl, _, e, _⟩ := q
    exact .base (.ins e I.cl I.ha I.hn I.htk I.hm)
  | cell n =>
    have h : (match S[n]? with
      | some (.ins C _ _) => some C
      | _ => none) = some C := h
    cases q : S[n]? with
    | none => rw [q] at h; cases h
    | some c =>
      rw [q] at h
      cases c with
      | ins D ns xs =>
        injection h with h
        subst h
        obtain ⟨a, ha, rfl⟩ := x.at_ p
        obtain ⟨dx, vs, e, _⟩ := x.node n a _ ha q
        exact .base (.ins e I.cl I.ha I.hn I.htk I.hm)
      | _ => cases h
  | _ => simp [insC] at h
theorem clsV_ok [Tabl] (hs : SR H L S T) (p : L v c) {u : Value} (h : clsV c = some u) : ClsV v u := by
  obtain ⟨rho, x⟩ := hs
  have q := x.rd _ _ p
  cases c with
  | raw w =>
    simp only [RD] at q
    subst q
    cases v with
    | ty n => simp [clsV] at h; subst h; exact .ty n
    | ref C => simp [clsV] at h; subst h; exact .own C
    | _ => simp [clsV] at h
  | _ => simp [clsV] at h
theorem isOne_ok [Tabl] (hs : SR H L S T) (p : L v d) {b : Bool} (h : isOne KF S d c b) : ∃ t u, TyX KF H v t ∧ clsV c = some u ∧ PySem.W.kitOne KF t u = some b := by
  unfold isOne at h
  split at h
  · rename_i t u e
    obtain ⟨h1, h2⟩ := tyS_ok (KF := KF) hs p e
    refine ⟨_, _, h1, rfl, ?_⟩
    rw [h.2]
    exact kit_ty (isB_ok h2 h.1)
  · rename_i t C e
    obtain ⟨h1, h2⟩ := tyS_ok (KF := KF) hs p e
    exact ⟨_, _, h1, rfl, h⟩
  · obtain ⟨C, u, h1, h2, h3, h4⟩ := h
    exact ⟨_, u, insC_ok hs p h1 h2, h3, h4⟩
  · exact h.elim
theorem isOne_ty [Tabl] (hs : SR H L S T) (p : L v d) : ∃ t, ∀ c b, isOne KF S d c b → TyX KF H v t ∧ ∃ u, clsV c = some u ∧ PySem.W.kitOne KF t u = some b := by
  cases e : tyS S d with
  | some t =>
    obtain ⟨h1, h2⟩ := tyS_ok (KF := KF) hs p e
    refine ⟨.type t, fun c b h => ⟨h1, ?_⟩⟩
    unfold isOne at h
    rw [e] at h
    split at h
    · rename_i t' u e'
      injection e' with e'
      subst e'
      refine ⟨_, rfl, ?_⟩
      rw [h.2]
      exact kit_ty (isB_ok h2 h.1)
    · rename_i t' C e'
      injection e' with e'
      subst e'
      exact ⟨_, rfl, h⟩
    · rename_i e'; cases e'
    · exact h.elim
  | none =>
    cases e2 : insC S d with
    | none =>
      refine ⟨.none, fun c b h => ?_⟩
      unfold isOne at h
      rw [e] at h
      obtain ⟨C, u, h1, _⟩ := h
      rw [e2] at h1
      cases h1
    | some C =>
      refine ⟨.ref C, fun c b h => ?_⟩
      unfold isOne at h
      rw [e] at h
      obtain ⟨C', u, h1, h2, h3, h4⟩ := h
      rw [e2] at h1
      injection h1 with h1
      subst h1
      exact ⟨insC_ok hs p e2 h2, u, h3, h4⟩
end
theorem clss_ok [Tabl] {KF : PySem.W.Frag} {H : Hp} {L : LL} {S : Store} {T : List (Addr × HO)} (hs : SR H L S T) : ∀ {cs : List Dat} {ws : List V}, Ls L ws cs → cs.all (fun c => (clsV c).isSome) = true → ∃ us, Paired ClsV ws us
  | [], [], _, _ => ⟨[], .nil⟩
  | c :: cs, w :: ws, q, ha => by
    rw [List.all_cons, Bool.and_eq_true] at ha
    obtain ⟨us, hus⟩ := clss_ok (KF := KF) hs q.2 ha.2
    obtain ⟨u, hu⟩ := Option.isSome_iff_exists.mp ha.1
    exact ⟨u :: us, .cons (clsV_ok hs q.1 hu) hus⟩
  | [], _ :: _, q, _ => q.elim
  | _ :: _, [], q, _ => q.elim
theorem isAny_ok [Tabl] {KF : PySem.W.Frag} {H : Hp} {L : LL} {S : Store} {T : List (Addr × HO)} {d : Dat} {t : Value} (hs : SR H L S T) (ht : ∀ c b, isOne KF S d c b → ∃ u, clsV c = some u ∧ PySem.W.kitOne KF t u = some b) :
    ∀ {cs : List Dat} {ws : List V} {b : Bool}, Ls L ws cs → cs.all (fun c => (clsV c).isSome) = true → isAny KF S d cs b → ∃ us, Paired ClsV ws us ∧ PySem.W.kitAny KF t us = some b
  | [], [], b, _, _, hb => ⟨[], .nil, by rw [show b = false from hb]; rfl⟩
  | c :: cs, w :: ws, b, q, ha, hb => by
    obtain ⟨k, hk, h1, h2⟩ := hb
    obtain ⟨u, hu, e⟩ := ht c k hk
    rw [List.all_cons, Bool.and_eq_true] at ha
    cases k with
    | true =>
      obtain ⟨us, hus⟩ := clss_ok (KF := KF) hs q.2 ha.2
      refine ⟨u :: us, .cons (clsV_ok hs q.1 hu) hus, ?_⟩
      rw [h1 rfl]
      exact kitAny_cons e (fun z => by cases z) (fun _ => rfl)
    | false =>
      obtain ⟨us, hus, eus⟩ := isAny_ok hs ht q.2 ha.2 (h2 rfl)
      exact ⟨u :: us, .cons (clsV_ok hs q.1 hu) hus, kitAny_cons e (fun _ => eus) (fun z => by cases z)⟩
  | [], _ :: _, _, q, _, _ => q.elim
  | _ :: _, [], _, q, _, _ => q.elim
def rIsiG (K : PySem.W.Frag) : List V → Hp → VK → Prop := fun xs H Q => rIsi K xs H Q ∨ rIsiT K xs H Q
theorem dcb_isi [Tabl] {X : Cx} : DCb X (.builtin "isinstance") (rIsiG X.K) (gIsi X.K) := ⟨CallR.or call_isi call_isiT, fun {xs ds L H S T K Q} hs p h hq => by
  unfold gIsi at h
  split at h
  · rename_i d c cs
    obtain ⟨v, w, rfl, pv, pw⟩ := p.two
    obtain ⟨hall, b, h1, h2⟩ := h
    obtain ⟨tp, ws, rfl, eT, s1, p1⟩ := hs.tuple pw
    obtain ⟨t, ht⟩ := isOne_ty (KF := X.K) hs pv
    obtain ⟨us, hus, eus⟩ := isAny_ok (KF := X.K) s1 (fun c b h => (ht c b h).2) p1 hall h1
    obtain ⟨k, hk, _⟩ := h1
    exact .inr ⟨v, tp, ws, t, us, b, rfl, eT, hus, (ht c k hk).1, eus, hq.flat hs (d := .bl _) rfl h2⟩
  · rename_i d c _
    obtain ⟨v, w, rfl, pv, pw⟩ := p.two
    obtain ⟨b, h1, h2⟩ := h
    obtain ⟨t, u, h3, h4, h5⟩ := isOne_ok hs pv h1
    exact .inl ⟨v, w, t, u, b, rfl, clsV_ok hs pw h4, h3, h5, hq.flat hs (d := .bl _) rfl h2⟩
  · exact h.elim⟩
/-! ### list, tuple, all, any, sorted -/
def gList (fin : List Dat → Store → KE → Prop) : GL := fun ds S K => match ds with
  | [d] => ∃ xs, seqD S d = some xs ∧ fin xs S K
  | _ => False
def gListT : GL := gList fun xs S K => K (.lst xs) S
def gListC : GL := gList fun xs S K => K (.cell S.length) (S ++ [.lst xs])
section
variable {X : Cx}
theorem dcb_list [Tabl] : DCb X (.type "list") (fun xs H Q => ∃ p ys, xs = [.ref p] ∧ (SqL X.K H p ys ∨ SqT X.K H p ys) ∧ ∀ l, H l = none → Q (.ref l) (upd H l (.lst ys))) gListT := ⟨call_list_of, fun {xs ds L H S T K Q} hs p h hq => by
  unfold gListT gList at h
  split at h
  · obtain ⟨v, rfl, pv⟩ := p.one
    obtain ⟨ys, e, h⟩ := h
    obtain ⟨a, vs, rfl, h1, s1, p1⟩ := hs.seq (KF := X.K) pv e
    exact ⟨a, vs, rfl, h1, fun l hl => hq _ _ _ _ S (LaddL.le.trans Ladd.le) Ladd.here (s1.lst hl p1) h⟩
  · exact h.elim⟩
theorem dcb_listC [Tabl] : DCb X (.type "list") (fun xs H Q => ∃ p ys, xs = [.ref p] ∧ (SqL X.K H p ys ∨ SqT X.K H p ys) ∧ ∀ l, H l = none → Q (.ref l) (upd H l (.lst ys))) gListC := ⟨call_list_of, fun {xs ds L H S T K Q} hs p h hq => by
  unfold gListC gList at h
  split at h
  · obtain ⟨v, rfl, pv⟩ := p.one
    obtain ⟨ys, e, h⟩ := h
    obtain ⟨a, vs, rfl, h1, s1, p1⟩ := hs.seq (KF := X.K) pv e
    exact ⟨a, vs, rfl, h1, fun l hl => hq _ _ _ _ _ (LaddL.le.trans Ladd.le) Ladd.here (s1.cell (d := .lst ys) hl rfl p1) h⟩
  · exact h.elim⟩
def gTupleC : GL := fun ds S K => match ds with
  | [d] => ∃ xs, seqD S d = some xs ∧ K (.tup xs) S
  | _ => False
theorem dcb_tuple [Tabl] : DCb X (.type "tuple") (fun xs H Q => ∃ p ys, xs = [.ref p] ∧ ((SqL X.K H p ys ∧ ∀ l, H l = none → Q (.ref l) (upd H l (.tup ys))) ∨ (SqT X.K H p ys ∧ Q (.ref p) H))) gTupleC := ⟨call_tuple_of, fun {xs ds L H S T K Q} hs p h hq => by
  unfold gTupleC at h
  split at h
  · rename_i d
    obtain ⟨v, rfl, pv⟩ := p.one
    obtain ⟨ys, e, h⟩ := h
    have lst : view S d = some (.lst ys) → _ := fun e' => (hs.list pv e')
    cases d with
    | tup zs =>
      simp [seqD] at e
      subst e
      obtain ⟨a, vs, rfl, e1, s1, p1⟩ := hs.tuple pv
      exact ⟨a, vs, rfl, .inr ⟨.of e1, hq _ _ _ _ S (.refl _) pv hs h⟩⟩
    | lst zs =>
      simp [seqD] at e
      subst e
      obtain ⟨a, vs, rfl, e1, s1, p1⟩ := hs.list pv rfl
      exact ⟨a, vs, rfl, .inl ⟨.of e1, fun l hl => hq _ _ _ _ S (LaddL.le.trans Ladd.le) Ladd.here (s1.tup hl p1) h⟩⟩
    | cell n =>
      have e' : (match S[n]? with
        | some (.lst xs) => some xs
        | _ => none) = some ys := e
      cases q : S[n]? with
      | none => rw [q] at e'; cases e'
      | some c =>
        rw [q] at e'
        cases c with
        | lst zs =>
          injection e' with e'
          subst e'
          obtain ⟨a, vs, rfl, e1, s1, p1⟩ := hs.list (d := .cell n) (ds := zs) pv q
          exact ⟨a, vs, rfl, .inl ⟨.of e1, fun l hl => hq _ _ _ _ S (LaddL.le.trans Ladd.le) Ladd.here (s1.tup hl p1) h⟩⟩
        | _ => cases e'
    | _ => simp [seqD] at e
  · exact h.elim⟩
/-- a list's items, as a list -/
def lstD (S : Store) (d : Dat) : Option (List Dat) := match view S d with
  | some (.lst xs) => some xs
  | _ => none
theorem lstD_view {S : Store} {d : Dat} {xs : List Dat} (h : lstD S d = some xs) : view S d = some (.lst xs) := by
  unfold lstD at h
  split at h
  · rename_i e
    injection h with h
    rw [e, h]
  · cases h
def gBools (f : List Bool → Bool) : GL := fun ds S K => match ds with
  | [d] => ∃ bs : List Bool, lstD S d = some (bs.map Dat.bl) ∧ K (.bl (f bs)) S
  | _ => False
theorem dcb_all [Tabl] (hc : X.calm = true) : DCb X (.builtin "all") (rAll X.K) (gBools fun bs => bs.all id) := ⟨cr_all hc, fun {xs ds L H S T K Q} hs p h hq => by
  unfold gBools at h
  split at h
  · obtain ⟨v, rfl, pv⟩ := p.one
    obtain ⟨bs, e, h⟩ := h
    obtain ⟨a, vs, rfl, h1, s1, p1⟩ := hs.list pv (lstD_view e)
    rw [p1.bls s1] at h1
    exact ⟨a, bs, rfl, .of h1, hq.flat hs (d := .bl _) rfl h⟩
  · exact h.elim⟩
theorem dcb_any [Tabl] (hc : X.calm = true) : DCb X (.builtin "any") (rAny X.K) (gBools fun bs => bs.any id) := ⟨cr_any hc, fun {xs ds L H S T K Q} hs p h hq => by
  unfold gBools at h
  split at h
  · obtain ⟨v, rfl, pv⟩ := p.one
    obtain ⟨bs, e, h⟩ := h
    obtain ⟨a, vs, rfl, h1, s1, p1⟩ := hs.list pv (lstD_view e)
    rw [p1.bls s1] at h1
    exact ⟨a, bs, rfl, .of h1, hq.flat hs (d := .bl _) rfl h⟩
  · exact h.elim⟩
/-- sorted(texts) -/
def gSortedS (fin : List Dat → Store → KE → Prop) : GL := fun ds S K => match ds with
  | [d] => ∃ xs : List Str, lstD S d = some (xs.map Dat.str) ∧ xs.length < 64 ∧ ∀ ys : List Str, ys.Perm xs → PyProof.Rows.sortedS ys = true → fin (ys.map Dat.str) S K
  | _ => False
theorem Ls.flatS [Tabl] {L : LL} {H : Hp} {S : Store} {T : List (Addr × HO)} (s : SR H L S T) : ∀ ns : List Str, ∃ L', Lle L L' ∧ Ls L' (ns.map V.str) (ns.map Dat.str) ∧ SR H L' S T := fun ns => s.flats (by
    induction ns with
    | nil => trivial
    | cons n ns ih => exact ⟨rfl, ih⟩)
theorem dcb_sortedS [Tabl] : DCb X (.builtin "sorted") (rSortedS X.K) (gSortedS fun xs S K => K (.lst xs) S) := ⟨cr_sortedS, fun {xs ds L H S T K Q} hs p h hq => by
  unfold gSortedS at h
  split at h
  · obtain ⟨v, rfl, pv⟩ := p.one
    obtain ⟨zs, e, hl, h⟩ := h
    obtain ⟨a, vs, rfl, h1, s1, p1⟩ := hs.list pv (lstD_view e)
    rw [p1.strs s1] at h1
    refine ⟨a, zs, rfl, .of h1, hl, fun ys p hp hsrt hnew => ?_⟩
    obtain ⟨L2, l2, p2, s2⟩ := Ls.flatS hs ys
    exact hq _ _ _ _ S (l2.trans Ladd.le) Ladd.here (s2.lst hnew p2) (h ys hp hsrt)
  · exact h.elim⟩
theorem dcb_sortedSC [Tabl] : DCb X (.builtin "sorted") (rSortedS X.K) (gSortedS fun xs S K => K (.cell S.length) (S ++ [.lst xs])) := ⟨cr_sortedS, fun {xs ds L H S T K Q} hs p h hq => by
  unfold gSortedS at h
  split at h
  · obtain ⟨v, rfl, pv⟩ := p.one
    obtain ⟨zs, e, hl, h⟩ := h
    obtain ⟨a, vs, rfl, h1, s1, p1⟩ := hs.list pv (lstD_view e)
    rw [p1.strs s1] at h1
    refine ⟨a, zs, rfl, .of h1, hl, fun ys p hp hsrt hnew => ?_⟩
    obtain ⟨L2, l2, p2, s2⟩ := Ls.flatS hs ys
    exact hq _ _ _ _ _ (l2.trans Ladd.le) Ladd.here (s2.cell (d := .lst (ys.map Dat.str)) hnew rfl p2) (h ys hp hsrt)
  · exact h.elim⟩
end
/-! ### methods of built-in types -/
structure DMt [Tabl] (X : Cx) (id : String) (r : V → List V → Hp → VK → Prop) (g : GM) : Prop where
  run : MtR X id r
  imp : MtI r g
/-- of the type T -/
def isT (T : String) (S : Store) (d : Dat) : Prop := match d with
  | .str _ => T = "str"
  | d => T = "list" ∧ (lstD S d).isSome = true
theorem isT_ok [Tabl] {T : String} {S : Store} {d : Dat} {H : Hp} {L : LL} {P : List (Addr × HO)} {v : V} {KF : PySem.W.Frag} (hs : SR H L S P) (p : L v d) (h : isT T S d) : tyV KF T v H := by
  unfold isT at h
  split at h
  · rw [hs.vstr p]; exact h
  · obtain ⟨h1, h2⟩ := h
    obtain ⟨xs, e⟩ := Option.isSome_iff_exists.mp h2
    obtain ⟨a, vs, rfl, e1, _⟩ := hs.list p (lstD_view e)
    exact .inl ⟨h1, vs, .of e1⟩
def uBM0 (T : String) (g : GM) (uo : UE) : UE := fun dl S K X => uo dl S (fun d S1 => isT T S1 d ∧ g d [] S1 K) X
def uBM (T : String) (g : GM) (uo : UE) (ua : UA) : UE := fun dl S K X => uo dl S (fun d S1 => isT T S1 d ∧ ua dl S1 (fun xs S2 => g d xs S2 K) X) X
section
variable {X : Cx} {W : WX} {o e : Expr} {es : List Expr} {to : TE} {uo : UE} {t : TA} {u : UA} {name : Str} {apos cpos : Pos} {T id : String} {r : V → List V → Hp → VK → Prop} {g : GM}
theorem de_bm0 [Tabl] (pa : PlainAttrs T) (slot : Slot T name id) (hty : typeOf (.builtin id) = pure (.type "method_descriptor")) (hm : DMt X id r g) (ho : DE X W o to uo)
    (hbase : attributeBase o name X.env (eval o X.env) = eval o X.env := by rfl) (hline : (apos.endLine == cpos.line) = true := by rfl) : DE X W (.Call (.Attribute o name apos) [] [] cpos) (tBM0 X.K T r to) (uBM0 T g uo) :=
  ⟨pe_bm0 pa slot hty hm.run ho.run hbase hline, fun {sg dl L H S P K X' Q} he hs h hq hx => ho.imp he hs h (fun v d L1 H1 S1 l1 p1 s1 h1 => ⟨isT_ok s1 p1 h1.1, hm.imp (xs := []) (ds := []) s1 p1 True.intro h1.2 (hq.le l1)⟩) hx⟩
theorem de_bm [Tabl] (pa : PlainAttrs T) (slot : Slot T name id) (hty : typeOf (.builtin id) = pure (.type "method_descriptor")) (hm : DMt X id r g) (ho : DE X W o to uo) (ha : DA X W (e :: es) t u)
    (hbase : attributeBase o name X.env (eval o X.env) = eval o X.env := by rfl)
    (hfew : ((backTo cpos (starEach (e :: es) X.env)).all (fun x => !x.1) && (backToKw cpos (keywordEach [] X.env)).all (fun x => x.1.isSome)
      && decide ((e :: es).length + ([] : List Keyword).length + (if ([] : List Keyword).isEmpty then 0 else 1) < 30)) = true := by rfl)
    (hline : (apos.endLine == cpos.line) = true := by rfl) (hs : starEach (e :: es) X.env = (false, eval e X.env) :: starEach es X.env := by rfl) (hplain : (backTo cpos (starEach es X.env)).any (·.1) = false := by rfl) :
    DE X W (.Call (.Attribute o name apos) (e :: es) [] cpos) (tBM X.K T r to t) (uBM T g uo u) :=
  ⟨pe_bm pa slot hty hm.run ho.run ha.run hbase hfew hline hs hplain, fun {sg dl L H S P K X' Q} he hs h hq hx => ho.imp he hs h (fun v d L1 H1 S1 l1 p1 s1 h1 => ⟨isT_ok s1 p1 h1.1, ha.imp (he.le l1) s1 h1.2 (fun vs ds L2 H2 S2 l2 p2 s2 h2 => hm.imp s2 (l2 _ _ p1) p2 h2 (hq.le (l1.trans l2))) (hx.le l1)⟩) hx⟩
end
def gAppend : GM := fun d ds S K => match d, ds with
  | .cell n, [y] => ∃ xs, S[n]? = some (.lst xs) ∧ xs.length < sizeLine ∧ K .non (S.set n (.lst (xs ++ [y])))
  | _, _ => False
theorem dmt_append [Tabl] {X : Cx} : DMt X "list.append" rAppend gAppend := ⟨mt_append, fun {x dx xs ds L H S T K Q} hs p ps h hq => by
  unfold gAppend at h
  split at h
  · rename_i n y
    obtain ⟨v, rfl, pv⟩ := ps.one
    obtain ⟨zs, e, hl, h⟩ := h
    obtain ⟨a, vs, rfl, e1, s1, p1⟩ := hs.list (d := .cell n) p e
    have s2 := s1.set (a := a) (n := n) (o := .lst (vs ++ [v])) (d := .lst (zs ++ [y])) (LaddL.le _ _ p) rfl (p1.append ⟨LaddL.le _ _ pv, True.intro⟩)
    exact ⟨a, vs, v, rfl, rfl, e1, by rw [p1.length]; exact hl, hq.le LaddL.le |>.flat s2 (d := .non) rfl h⟩
  · exact h.elim⟩
def gJoin : GM := fun d ds S K => match d, ds with
  | .str a, [y] => ∃ ys : List Str, seqD S y = some (ys.map Dat.str) ∧ (ys.map (·.length)).sum + ys.length * a.length ≤ 16777216 ∧ K (.str (Txt.join a ys)) S
  | _, _ => False
theorem dmt_join [Tabl] {X : Cx} : DMt X "str.join" (fun x xs H Q => ∃ a p, ∃ ys : List Str, x = .str a ∧ xs = [.ref p] ∧ (SqL X.K H p (ys.map V.str) ∨ SqT X.K H p (ys.map V.str)) ∧
    (ys.map (·.length)).sum + ys.length * a.length ≤ 16777216 ∧ Q (.str (Txt.join a ys)) H) gJoin := ⟨mt_join, fun {x dx xs ds L H S T K Q} hs p ps h hq => by
  unfold gJoin at h
  split at h
  · obtain ⟨v, rfl, pv⟩ := ps.one
    obtain ⟨ys, e, hl, h⟩ := h
    obtain ⟨a, vs, rfl, h1, s1, p1⟩ := hs.seq (KF := X.K) pv e
    rw [p1.strs s1] at h1
    exact ⟨_, a, ys, hs.vstr p, rfl, h1, hl, hq.flat hs (d := .str _) rfl h⟩
  · exact h.elim⟩
/-! ### o[i] = v -/
abbrev GS := Dat → Dat → Dat → Store → (Store → Prop) → Prop
def SetI [Tabl] (t : TSet) (g : GS) : Prop := ∀ {o i v do' di dv L H S T K} {Q : Hp → Prop}, SR H L S T → L o do' → L i di → L v dv → g do' di dv S K → (∀ L' H' S', Lle L L' → SR H' L' S' T → K S' → Q H') → t o i v H Q
def uGSub (uo ui : UE) (g : GS) : UG := fun d dl S K X => uo dl S (fun o S1 => ui dl S1 (fun i S2 => g o i d S2 fun S3 => K dl S3) X) X
theorem dg_sub [Tabl] {X : Cx} {W : WX} {o i : Expr} {to ti : TE} {uo ui : UE} {t : TSet} {g : GS} {pos : Pos} (ho : DE X W o to uo) (hi : DE X W i ti ui) (hs : PSet X t) (hg : SetI t g)
    (ha : ∀ v, assign (.Subscript o i pos) X.env v = (do
      let ov ← holding [v] (eval o X.env)
      let iv ← holding [v, ov] (eval i X.env)
      standAt pos
      holding [v, ov, iv] (setItem ov iv v)
      release [v, ov, iv] []) := by intro _; rfl) : DG X W (.Subscript o i pos) (gSub to ti t) (uGSub uo ui g) [] :=
  ⟨pg_sub ho.run hi.run hs ha, fun {sg dl L H S T v d K X' Q} he hs p h hk hx => ho.imp he hs h (fun ov od L1 H1 S1 l1 p1 s1 h1 => hi.imp (he.le l1) s1 h1 (fun iv id L2 H2 S2 l2 p2 s2 h2 => hg s2 (l2 _ _ p1) p2 (l2 _ _ (l1 _ _ p)) h2 fun L' H' S' l' s' k' =>
    hk sg dl L' H' S' ((l1.trans l2).trans l') rfl (fun _ _ => rfl) (he.le ((l1.trans l2).trans l')) s' k') (hx.le l1)) hx⟩
def gSetL : GS := fun o i v S K => match o, i with
  | .cell n, .int k => ∃ xs j, S[n]? = some (.lst xs) ∧ ixN xs.length k = some j ∧ K (S.set n (.lst (xs.set j v)))
  | _, _ => False
theorem Ls.set {L : LL} {v : V} {d : Dat} (p : L v d) : ∀ {vs : List V} {ds : List Dat} (j : Nat), Ls L vs ds → Ls L (vs.set j v) (ds.set j d)
  | [], [], _, _ => True.intro
  | _ :: _, _ :: _, 0, h => ⟨p, h.2⟩
  | _ :: _, _ :: _, j + 1, h => ⟨h.1, Ls.set p j h.2⟩
  | [], _ :: _, _, h => h.elim
  | _ :: _, [], _, h => h.elim
theorem set_imp [Tabl] : SetI rSetL gSetL := fun {o i v do' di dv L H S T K Q} hs po pi pv h hq => by
  unfold gSetL at h
  split at h
  · rename_i n k
    obtain ⟨xs, j, e, hj, h⟩ := h
    obtain ⟨a, vs, rfl, e1, s1, p1⟩ := hs.list (d := .cell n) po e
    have s2 := s1.set (a := a) (n := n) (o := .lst (vs.set j v)) (d := .lst (xs.set j dv)) (LaddL.le _ _ po) rfl (p1.set (LaddL.le _ _ pv) j)
    exact ⟨a, vs, k, j, rfl, hs.vint pi, e1, by rw [p1.length]; exact hj, hq _ _ _ LaddL.le s2 h⟩
  · exact h.elim
end DL
/-! DL7: what is walked: a list, a tuple, a text; a range; zip of two of these; enumerate. -/
namespace DL
open PySem PySem.Spec PyProof.Rows L2
/-- what may be drawn from -/
inductive Sk where
  | l (a : Addr) | t (a : Addr) | s (x : Str) (k : Tok)
def Sk.val : Sk → Value
  | .l a => .ref a | .t a => .ref a | .s x k => .str x k
def Sk.src : Sk → List Addr
  | .l a => [a] | .t a => [a] | .s _ _ => []
def signs (x : Str) : List V := x.cps.toList.map fun c => .str (⟨#[c]⟩ : Str)
def Sk.vals (K : PySem.W.Frag) (H : Hp) : Sk → List V → Prop
  | .l a, xs => SqL K H a xs
  | .t a, xs => SqT K H a xs
  | .s x _, xs => xs = signs x
def Sk.at_ (it : Addr) (i : Nat) (h : Heap) : Sk → Prop
  | .l a => h.IsListIter it a i
  | .t a => h.IsTupleIter it a i
  | .s x k => h.IsStrIter it (strIterType x) x k i
def Sk.ob : Sk → Obj
  | .l a => { cls := .type "list_iterator", data := .fields #[.ref a, .int 0 0] }
  | .t a => { cls := .type "tuple_iterator", data := .fields #[.ref a, .int 0 0] }
  | .s x k => { cls := .type (strIterType x), data := .fields #[.str x k, .int 0 0] }
section
variable {X : Cx} {pins : List (Addr × Obj)} {sg : L2.St} {H : Hp} {s : Shared}
theorem Sk.inj (I : Inv X pins sg H s) {k : Sk} {xs ys : List V} (h : k.vals X.K H xs) (h' : k.vals X.K H ys) : xs = ys := by
  cases k with
  | l a => exact I.list_inj h h'
  | t a => exact I.tuple_inj h h'
  | s x t => exact (show xs = signs x from h).trans (show ys = signs x from h').symm
theorem Sk.get? (it : Addr) (i : Nat) (h : Heap) {k : Sk} (st : k.at_ it i h) : ∃ o, h.get? it = some o ∧ ∀ v, o.data ≠ .cell v := by
  cases k with
  | l a => obtain ⟨o, e, _, d⟩ := st; exact ⟨o, e, fun v q => by rw [d] at q; cases q⟩
  | t a => obtain ⟨o, e, _, d⟩ := st; exact ⟨o, e, fun v q => by rw [d] at q; cases q⟩
  | s x t => obtain ⟨o, e, _, d⟩ := st; exact ⟨o, e, fun v q => by rw [d] at q; cases q⟩
theorem Sk.keep {it : Addr} {i : Nat} {h h' : Heap} {k : Sk} (st : k.at_ it i h) (hk : ∀ o, h.get? it = some o → h'.get? it = some o) : k.at_ it i h' := by
  cases k with
  | l a => exact Heap.IsListIter.at st hk
  | t a => exact Heap.IsTupleIter.at st hk
  | s x t => obtain ⟨o, e, r⟩ := st; exact ⟨o, hk o e, r⟩
/-- a source as the library draws from it -/
theorem Sk.draws {prog : Program} {w : World} {A : Around} (hh : A.handled = none) (I : Inv X pins sg H s) (k : Sk) {xs : List V} (hv : k.vals X.K H xs) (it : Addr) (hne : ∀ a ∈ k.src, a ≠ it) :
    ∃ (P : Nat → Value → Prop) (St : Nat → Heap → Prop), Draws prog w A it (it :: k.src) xs.length P St ∧ (∀ i, k.at_ it i s.heap → St i s.heap) ∧ (∀ i h, St i h → k.at_ it i h) ∧ ∀ i u, P i u → ∃ v, xs[i]? = some v ∧ RelV v u := by
  cases k with
  | l a =>
    obtain ⟨its, rv, p, _⟩ := I.list hv
    have D := Draws.list (prog := prog) (w := w) hh it a (hne a (List.mem_singleton.mpr rfl)) its.toArray
    rw [show its.toArray.size = xs.length by simp [rv.length]] at D
    refine ⟨_, _, D, fun i st => ⟨st, p.isList⟩, fun i h st => st.1, fun i u e => ?_⟩
    have e' : its[i]? = some u := by simpa using e
    cases q : xs[i]? with
    | none => rw [rv.none_of q] at e'; cases e'
    | some v =>
      obtain ⟨u', h1, h2⟩ := rv.get q
      rw [e'] at h1
      injection h1 with h1
      subst h1
      exact ⟨v, rfl, h2⟩
  | t a =>
    obtain ⟨its, rv, p, _⟩ := I.tuple hv
    have D := Draws.tuple (prog := prog) (w := w) hh it a (hne a (List.mem_singleton.mpr rfl)) its.toArray
    rw [show its.toArray.size = xs.length by simp [rv.length]] at D
    refine ⟨_, _, D, fun i st => ⟨st, p⟩, fun i h st => st.1, fun i u e => ?_⟩
    have e' : its[i]? = some u := by simpa using e
    cases q : xs[i]? with
    | none => rw [rv.none_of q] at e'; cases e'
    | some v =>
      obtain ⟨u', h1, h2⟩ := rv.get q
      rw [e'] at h1
      injection h1 with h1
      subst h1
      exact ⟨v, rfl, h2⟩
  | s x t =>
    have D := Draws.text (prog := prog) (w := w) hh it x t
    have hv' : xs = signs x := hv
    rw [show x.cps.size = xs.length by rw [hv']; simp [signs]] at D
    refine ⟨_, _, D, fun i st => st, fun i h st => st, fun i u e => ?_⟩
    obtain ⟨c, tk, h1, rfl⟩ := e
    refine ⟨.str ⟨#[c]⟩, ?_, ⟨tk, rfl⟩⟩
    rw [hv']
    simp only [signs, List.getElem?_map]
    rw [show x.cps.toList[i]? = some c by simpa using h1]
    rfl
theorem Sk.begins (I : Inv X pins sg H s) (k : Sk) {xs : List V} (hv : k.vals X.K H xs) : ∃ HB : Heap → Prop, Begins k.val k.ob HB ∧ HB s.heap ∧ ∀ a ∈ k.src, a < s.heap.objs.size := by
  cases k with
  | l a =>
    obtain ⟨its, rv, p, _⟩ := I.list hv
    obtain ⟨o, n, e, _⟩ := id p
    exact ⟨_, begins_list a its.toArray, p.isList, fun b hb => by rw [List.mem_singleton.mp hb]; exact Heap.lt_size e⟩
  | t a =>
    obtain ⟨its, rv, p, _⟩ := I.tuple hv
    obtain ⟨o, e, _⟩ := id p
    exact ⟨_, begins_tuple a its.toArray, p, fun b hb => by rw [List.mem_singleton.mp hb]; exact Heap.lt_size e⟩
  | s x t => exact ⟨_, begins_text x t, True.intro, fun b hb => nomatch hb⟩
theorem Sk.fresh {it : Addr} {h : Heap} (k : Sk) (e : h.get? it = some k.ob) : k.at_ it 0 h := by
  cases k with
  | l a => exact ⟨_, e, rfl, rfl⟩
  | t a => exact ⟨_, e, rfl, rfl⟩
  | s x t => exact ⟨_, e, rfl, rfl⟩
end
/-- pairs, drawn from two -/
def ItZ (K : PySem.W.Frag) (k1 k2 : Sk) : It :=
  ⟨fun i H => ∃ (xs ys : List V) (x y : V), k1.vals K H xs ∧ k2.vals K H ys ∧ xs[i]? = some x ∧ ys[i]? = some y,
    fun i H v H' => ∃ T x y, v = .ref T ∧ H T = none ∧ H' = upd H T (.tup [x, y]) ∧ (∀ xs, k1.vals K H xs → xs[i]? = some x) ∧ ∀ ys, k2.vals K H ys → ys[i]? = some y,
    fun i H => ∃ xs ys : List V, k1.vals K H xs ∧ k2.vals K H ys ∧ i = min xs.length ys.length⟩
theorem turn_z {P : Program} {w : World} {K : PySem.W.Frag} {elts : List Expr} {kk : Nat} {tpos : Pos} {k1 k2 : Sk} {z TI TO i1 i2 : Addr} (D : ZipSep2 z TI TO i1 i2 (i1 :: k1.src) (i2 :: k2.src)) (n1 : ∀ a ∈ k1.src, a ≠ i1) (n2 : ∀ a ∈ k2.src, a ≠ i2) :
    Turn P w K (.Tuple elts kk tpos) (ItZ K k1 k2) [z, TI, TO, i1, i2] z (fun i h => IsZip h z TI TO .none ∧ IsTupOf2 h TI (.ref i1) (.ref i2) ∧ (∃ x y, IsTupOf2 h TO x y) ∧ k1.at_ i1 i h ∧ k2.at_ i2 i h) where
  mem := by simp
  obj := fun i h st c hc => by
    obtain ⟨hz, hTI, ⟨x, y, hTO⟩, h1, h2⟩ := st
    have e' : c = z ∨ c = TI ∨ c = TO ∨ c = i1 ∨ c = i2 := by simpa using hc
    rcases e' with q | q | q | q | q
    · rw [q]; exact ⟨_, hz, fun v q => nomatch q⟩
    · rw [q]; exact ⟨_, hTI, fun v q => nomatch q⟩
    · rw [q]; exact ⟨_, hTO, fun v q => nomatch q⟩
    · rw [q]; exact Sk.get? i1 i h h1
    · rw [q]; exact Sk.get? i2 i h h2
  keep := fun i h h' st k => by
    obtain ⟨hz, hTI, ⟨x, y, hTO⟩, h1, h2⟩ := st
    exact ⟨k z (by simp) _ hz, k TI (by simp) _ hTI, ⟨x, y, k TO (by simp) _ hTO⟩, Sk.keep h1 fun o q => k i1 (by simp) o q, Sk.keep h2 fun o q => k i2 (by simp) o q⟩
  item := by
    intro X hP hw hK hc i pins s sg H E I hf st hg
    subst hP hw hK
    obtain ⟨hz, hTI, ⟨x0, y0, hTO⟩, h1, h2⟩ := st
    obtain ⟨xs, ys, x, y, hqx, hqy, hx, hy⟩ := hg
    have hin : (X.A.in1).handled = none := I.ok.hd hc
    obtain ⟨P1, S1, D1, a1, b1, c1⟩ := k1.draws (prog := X.prog) (w := X.w) (A := X.A.in1) hin I hqx i1 n1
    obtain ⟨P2, S2, D2, a2, b2, c2⟩ := k2.draws (prog := X.prog) (w := X.w) (A := X.A.in1) hin I hqy i2 n2
    have lx : i < xs.length := (List.getElem?_eq_some_iff.mp hx).1
    have ly : i < ys.length := (List.getElem?_eq_some_iff.mp hy).1
    refine (GoesN.zip2 (elts := elts) (x1 := kk) (pos := tpos) (prog := X.prog) (w := X.w) (A := X.A) D D1 D2).goes i s _ E (by omega) ⟨hz, hTI, ⟨x0, y0, hTO⟩, a1 i h1, a2 i h2⟩ fun v h' tk hY hSt hk _ => ?_
    obtain ⟨T, u, u2, rfl, hT, p1, p2, ht⟩ := hY
    obtain ⟨x', e1, r1⟩ := c1 i u p1
    obtain ⟨y', e2, r2⟩ := c2 i u2 p2
    rw [hx] at e1
    rw [hy] at e2
    injection e1 with e1
    injection e2 with e2
    subst e1
    subst e2
    obtain ⟨z', TI', TO', s1', s2'⟩ := hSt
    have new : ObjOk X.prog X.w (upd H T (.tup [x, y])) h' T (.tup [x, y]) := ⟨by show 2 ≤ sizeLine; decide, [u, u2], .cons r1 (.cons r2 .nil), ht⟩
    have I1 : Inv X pins sg (upd H T (.tup [x, y])) { s with heap := h', toks := tk } :=
      I.turnedNew (t' := tk) (ch := [z, TI, TO, i1, i2]) (fun c o hb q => hk c o (fun m => hb (by
        simp only [List.mem_cons, List.not_mem_nil, or_false] at m ⊢
        rcases m with m | m | m | m
        · exact .inl m
        · exact .inr (.inr (.inl m))
        · exact .inr (.inr (.inr (.inl m)))
        · exact .inr (.inr (.inr (.inr m))))) q) hf hT new
    refine ⟨.ref T, _, I1, rfl, ⟨T, x, y, rfl, I.hok.fresh hT, rfl, fun l hl => by rw [Sk.inj I hl hqx]; exact hx, fun l hl => by rw [Sk.inj I hl hqy]; exact hy⟩, ⟨z', TI', TO', b1 _ _ s1', b2 _ _ s2'⟩, fun c hcm => ?_⟩
    have hlt : c < s.heap.objs.size := by
      have e' : c = z ∨ c = TI ∨ c = TO ∨ c = i1 ∨ c = i2 := by simpa using hcm
      rcases e' with q | q | q | q | q
      · rw [q]; exact Heap.lt_size hz
      · rw [q]; exact Heap.lt_size hTI
      · rw [q]; exact Heap.lt_size hTO
      · rw [q]; obtain ⟨_, e, _⟩ := Sk.get? i1 i _ h1; exact Heap.lt_size e
      · rw [q]; obtain ⟨_, e, _⟩ := Sk.get? i2 i _ h2; exact Heap.lt_size e
    rw [upd_ne (Nat.ne_of_lt (Nat.lt_of_lt_of_le hlt hT))]
    exact (hf c hcm).1
  done := by
    intro X hP hw hK hc i pins s sg H E I hf st hg
    subst hP hw hK
    obtain ⟨hz, hTI, ⟨x0, y0, hTO⟩, h1, h2⟩ := st
    obtain ⟨xs, ys, hqx, hqy, he⟩ := hg
    have hin : (X.A.in1).handled = none := I.ok.hd hc
    obtain ⟨P1, S1, D1, a1, b1, c1⟩ := k1.draws (prog := X.prog) (w := X.w) (A := X.A.in1) hin I hqx i1 n1
    obtain ⟨P2, S2, D2, a2, b2, c2⟩ := k2.draws (prog := X.prog) (w := X.w) (A := X.A.in1) hin I hqy i2 n2
    subst he
    refine (GoesN.zip2 (elts := elts) (x1 := kk) (pos := tpos) (prog := X.prog) (w := X.w) (A := X.A) D D1 D2).stops s (fun s' => Inv X pins sg H s') E ⟨hz, hTI, ⟨x0, y0, hTO⟩, a1 _ h1, a2 _ h2⟩ fun h' tk hk _ => ?_
    exact I.turnedL (t' := tk) (ch := [z, TI, TO, i1, i2]) (fun c o hb q => hk c o (fun m => hb (by
        simp only [List.mem_cons, List.not_mem_nil, or_false] at m ⊢
        rcases m with m | m | m | m
        · exact .inl m
        · exact .inr (.inr (.inl m))
        · exact .inr (.inr (.inr (.inl m)))
        · exact .inr (.inr (.inr (.inr m))))) q) hf
  self := fun A i s Q E st h => wpAny_pyIter_zip st.1 h
def iZ (K : PySem.W.Frag) (ta : TA) : TI := fun sg H R => ta sg H fun vs H1 => ∃ v1 v2, vs = [v1, v2] ∧ ∀ u1 u2, RelV v1 u1 → RelV v2 u2 → ∃ k1 k2 xs ys, Sk.val k1 = u1 ∧ Sk.val k2 = u2 ∧ k1.vals K H1 xs ∧ k2.vals K H1 ys ∧ R (ItZ K k1 k2) H1
theorem pi_z {X : Cx} {e e2 : Expr} {ta : TA} {p pos tpos : Pos} {elts : List Expr} {kk : Nat} (hg : Gl X "zip") (hm : X.mg "zip" = none) (ha : PA X [e, e2] ta)
    (hs : starEach [e, e2] X.env = (false, eval e X.env) :: starEach [e2] X.env := by rfl) (hpl : (backTo pos (starEach [e2] X.env)).any (·.1) = false := by rfl) :
    PI X (.Tuple elts kk tpos) (.Call (.Name "zip" p) [e, e2] [] pos) (iZ X.K ta) := by
  refine ⟨fun pins s sg H R I h => ?_⟩
  refine Call_ (ld_blt I hg hm PyProof.Rows.boot_zip (PyProof.Rows.callWith_type1 (thn (ha.run pos pins s sg H _ I h) fun us s1 ⟨vs, H1, I1, r1, q1⟩ => ?_) hs hpl))
  obtain ⟨v1, v2, ex, q1⟩ := q1
  subst ex
  obtain ⟨u1, u2, rfl, ru1, ru2⟩ := vals2 r1
  obtain ⟨k1, k2, xs, ys, rfl, rfl, hx, hy, q⟩ := q1 u1 u2 ru1 ru2
  obtain ⟨B1, b1, hb1, l1⟩ := k1.begins I1 hx
  obtain ⟨B2, b2, hb2, l2⟩ := k2.begins I1 hy
  refine zip_begins2 b1 b2 hb1 hb2 fun h' hz hTI hTO h1 h2 hsz hk => wpAny_pyIter_zip hz ?_
  have I2 : Inv X pins sg H1 { s1 with heap := h' } := I1.kept (t' := s1.toks) hk
  refine ⟨s1.heap.objs.size + 4, [s1.heap.objs.size + 4, s1.heap.objs.size + 2, s1.heap.objs.size + 3, s1.heap.objs.size, s1.heap.objs.size + 1], _, _, H1, rfl, I2,
    turn_z (k1 := k1) (k2 := k2) (zip_sep2 l1 l2) (fun a ha => Nat.ne_of_lt (l1 a ha)) (fun a ha => Nat.ne_of_lt (Nat.lt_succ_of_lt (l2 a ha))), ⟨hz, hTI, ⟨_, _, hTO⟩, Sk.fresh k1 h1, Sk.fresh k2 h2⟩, fun c hcm => ?_, q⟩
  have e' : c = s1.heap.objs.size + 4 ∨ c = s1.heap.objs.size + 2 ∨ c = s1.heap.objs.size + 3 ∨ c = s1.heap.objs.size ∨ c = s1.heap.objs.size + 1 := by simpa using hcm
  have hle : s1.heap.objs.size ≤ c := by
    rcases e' with z | z | z | z | z
    · rw [z]; exact Nat.le_add_right _ _
    · rw [z]; exact Nat.le_add_right _ _
    · rw [z]; exact Nat.le_add_right _ _
    · rw [z]; exact Nat.le_refl _
    · rw [z]; exact Nat.le_add_right _ _
  exact I1.fpOk hle (I1.hok.fresh hle)
/-! ### over data -/
/-- what is drawn, from a list, a tuple, a text -/
def drawD (S : Store) : Dat → Option (List Dat)
  | .str z => some (z.cps.toList.map fun c => .str (sgn c))
  | d => seqD S d
section
variable {H : Hp} {L : LL} {S : Store} {T : List (Addr × HO)} {KF : PySem.W.Frag}
theorem Ls.signs [Tabl] (hs : SR H L S T) (z : Str) : ∃ L', Lle L L' ∧ Ls L' (DL.signs z) (z.cps.toList.map fun c => .str (sgn c)) ∧ SR H L' S T := hs.flats (by
  unfold DL.signs
  generalize z.cps.toList = cs
  induction cs with
  | nil => trivial
  | cons c cs ih => exact ⟨rfl, ih⟩)
def isTup : Dat → Bool
  | .tup _ => true
  | _ => false
theorem SR.seqK [Tabl] (hs : SR H L S T) {v : V} {d : Dat} {ds : List Dat} (p : L v d) (e : seqD S d = some ds) :
    ∃ a vs, v = .ref a ∧ ((isTup d = true ∧ H a = some (.tup vs)) ∨ (isTup d = false ∧ H a = some (.lst vs))) ∧ SR H (LaddL L vs ds) S T ∧ Ls (LaddL L vs ds) vs ds := by
  cases d with
  | tup xs => simp [seqD] at e; subst e; obtain ⟨a, vs, h1, h2, h3⟩ := hs.tuple p; exact ⟨a, vs, h1, .inl ⟨rfl, h2⟩, h3⟩
  | lst xs => simp [seqD] at e; subst e; obtain ⟨a, vs, h1, h2, h3⟩ := hs.list p rfl; exact ⟨a, vs, h1, .inr ⟨rfl, h2⟩, h3⟩
  | cell n =>
    have e : (match S[n]? with
      | some (.lst xs) => some xs
      | _ => none) = some ds := e
    cases q : S[n]? with
    | none => rw [q] at e; cases e
    | some c =>
      rw [q] at e
      cases c with
      | lst xs =>
        injection e with e
        subst e
        obtain ⟨a, vs, h1, h2, h3⟩ := hs.list p (ds := xs) q
        exact ⟨a, vs, h1, .inr ⟨rfl, h2⟩, h3⟩
      | _ => cases e
  | _ => simp [seqD] at e
theorem sk_of [Tabl] (hs : SR H L S T) {v : V} {d : Dat} {xs : List Dat} (p : L v d) (e : drawD S d = some xs) {u : Value} (r : RelV v u) : ∃ k : Sk, k.val = u ∧
    ∀ H2 L2 S2 T2, Lle L L2 → SR H2 L2 S2 T2 → drawD S2 d = some xs → ∃ vs L3, k.vals KF H2 vs ∧ Lle L2 L3 ∧ Ls L3 vs xs ∧ SR H2 L3 S2 T2 := by
  have sq : seqD S d = some xs → (∀ S2, drawD S2 d = seqD S2 d) → (∃ k : Sk, k.val = u ∧
      ∀ H2 L2 S2 T2, Lle L L2 → SR H2 L2 S2 T2 → drawD S2 d = some xs → ∃ vs L3, k.vals KF H2 vs ∧ Lle L2 L3 ∧ Ls L3 vs xs ∧ SR H2 L3 S2 T2) := fun e hd => by
    obtain ⟨a, vs, rfl, h1, _⟩ := hs.seqK p e
    obtain rfl : u = Value.ref a := r
    rcases h1 with ⟨h0, _⟩ | ⟨h0, _⟩
    · refine ⟨.t a, rfl, fun H2 L2 S2 T2 l2 s2 e2 => ?_⟩
      rw [hd] at e2
      obtain ⟨b, ws, eb, h2, s3, p3⟩ := s2.seqK (l2 _ _ p) e2
      injection eb with eb
      subst eb
      rcases h2 with ⟨_, h2⟩ | ⟨z, _⟩
      · exact ⟨ws, _, SqT.of h2, LaddL.le, p3, s3⟩
      · rw [h0] at z; cases z
    · refine ⟨.l a, rfl, fun H2 L2 S2 T2 l2 s2 e2 => ?_⟩
      rw [hd] at e2
      obtain ⟨b, ws, eb, h2, s3, p3⟩ := s2.seqK (l2 _ _ p) e2
      injection eb with eb
      subst eb
      rcases h2 with ⟨z, _⟩ | ⟨_, h2⟩
      · rw [h0] at z; cases z
      · exact ⟨ws, _, SqL.of h2, LaddL.le, p3, s3⟩
  cases d with
  | str z =>
    rw [hs.vstr p] at r
    obtain ⟨t, rfl⟩ := r
    simp only [drawD, Option.some.injEq] at e
    refine ⟨.s z t, rfl, fun H2 L2 S2 T2 l2 s2 e2 => ?_⟩
    obtain ⟨L3, l3, p3, s3⟩ := Ls.signs s2 z
    rw [e] at p3
    exact ⟨_, L3, rfl, l3, p3, s3⟩
  | lst zs => exact sq e fun _ => rfl
  | tup zs => exact sq e fun _ => rfl
  | cell n => exact sq e fun _ => rfl
  | _ => simp [drawD, seqD] at e
end
def pairs (xs ys : List Dat) : List Dat := List.zipWith (fun a b => Dat.tup [a, b]) xs ys
def uZ (ua : UA) : UI := fun dl S R X => ua dl S (fun ds S1 => match ds with
  | [a, b] => ∃ xs ys, drawD S1 a = some xs ∧ drawD S1 b = some ys ∧ R (pairs xs ys) (fun S => drawD S a = some xs ∧ drawD S b = some ys) S1
  | _ => False) X
section
variable {X : Cx} {W : WX} {e e2 a b : Expr} {ta : TA} {ua : UA} {te : TE} {ue : UE} {p pos tpos : Pos} {elts : List Expr} {kk : Nat} {tg : Expr}
theorem di_zip [Tabl] (hm : X.mg "zip" = none) (ha : DA X W [e, e2] ta ua) (hg : Gl X "zip" := by rfl)
    (hs : starEach [e, e2] X.env = (false, eval e X.env) :: starEach [e2] X.env := by rfl) (hpl : (backTo pos (starEach [e2] X.env)).any (·.1) = false := by rfl) :
    DI X W (.Tuple elts kk tpos) (.Call (.Name "zip" p) [e, e2] [] pos) (iZ X.K ta) (uZ ua) := ⟨pi_z hg hm ha.run hs hpl, fun {sg dl L H S T R X' Q} he hs h hq hx =>
  ha.imp he hs h (fun vs ds L1 H1 S1 l1 p1 s1 h1 => by
    match ds, p1, h1 with
    | [a, b], p1, h1 =>
      obtain ⟨xs, ys, ea, eb, h1⟩ := h1
      obtain ⟨v, w, rfl, pv, pw⟩ := p1.two
      refine ⟨v, w, rfl, fun u1 u2 r1 r2 => ?_⟩
      obtain ⟨k1, e1, f1⟩ := sk_of (KF := X.K) s1 pv ea r1
      obtain ⟨k2, e2, f2⟩ := sk_of (KF := X.K) s1 pw eb r2
      obtain ⟨xv, _, hxv, _⟩ := f1 H1 L1 S1 T (.refl _) s1 ea
      obtain ⟨yv, _, hyv, _⟩ := f2 H1 L1 S1 T (.refl _) s1 eb
      refine ⟨k1, k2, xv, yv, e1, e2, hxv, hyv, hq _ (pairs xs ys) (fun S => drawD S a = some xs ∧ drawD S b = some ys) L1 H1 S1 l1 s1 ⟨fun i H2 L2 S2 T2 l2 s2 hP hi => ?_, fun i H2 L2 S2 T2 x H3 d l2 s2 hP hd hy => ?_, fun i H2 L2 S2 T2 l2 s2 hP hi => ?_⟩ h1⟩
      · obtain ⟨vs, L3, h3, l3, p3, s3⟩ := f1 H2 L2 S2 T2 l2 s2 hP.1
        obtain ⟨ws, L4, h4, l4, p4, s4⟩ := f2 H2 L3 S2 T2 (l2.trans l3) s3 hP.2
        have hl : i < min xs.length ys.length := by simpa [pairs] using hi
        exact ⟨vs, ws, vs[i]'(by rw [p3.length]; omega), ws[i]'(by rw [p4.length]; omega), h3, h4, List.getElem?_eq_getElem _, List.getElem?_eq_getElem _⟩
      · obtain ⟨vs, L3, h3, l3, p3, s3⟩ := f1 H2 L2 S2 T2 l2 s2 hP.1
        obtain ⟨ws, L4, h4, l4, p4, s4⟩ := f2 H2 L3 S2 T2 (l2.trans l3) s3 hP.2
        obtain ⟨A, x1, y1, rfl, hA, rfl, hx1, hy1⟩ := hy
        have ex := hx1 vs h3
        have ey := hy1 ws h4
        obtain ⟨c, ec, pc⟩ := p3.getV ex
        obtain ⟨c2, ec2, pc2⟩ := p4.getV ey
        have ed : d = .tup [c, c2] := by
          unfold pairs at hd
          rw [List.getElem?_zipWith, ec, ec2] at hd
          injection hd with hd
          exact hd.symm
        subst ed
        exact ⟨Ladd L4 _ _, (l3.trans l4).trans Ladd.le, Ladd.here, s4.tup hA ⟨l4 _ _ pc, pc2, True.intro⟩⟩
      · obtain ⟨vs, L3, h3, l3, p3, s3⟩ := f1 H2 L2 S2 T2 l2 s2 hP.1
        obtain ⟨ws, L4, h4, l4, p4, s4⟩ := f2 H2 L3 S2 T2 (l2.trans l3) s3 hP.2
        refine ⟨vs, ws, h3, h4, ?_⟩
        rw [hi, p3.length, p4.length]
        simp [pairs]
    | [], _, h1 => exact h1.elim
    | [_], _, h1 => exact h1.elim
    | _ :: _ :: _ :: _, _, h1 => exact h1.elim) hx⟩
/-- a list, a tuple, a text -/
def iSeq (K : PySem.W.Frag) (te : TE) : TI := fun sg H R => te sg H fun v H1 => (∃ a, v = .ref a ∧ (∃ xs, SqL K H1 a xs) ∧ R (Itl K a) H1) ∨ (∃ a, v = .ref a ∧ (∃ xs, SqT K H1 a xs) ∧ R (Itt K a) H1) ∨ ∃ x, v = .str x ∧ R (Its x) H1
theorem pi_any (hl : PE X e te) : PI X tg e (iSeq X.K te) := by
  refine ⟨fun pins s sg H R I h => ?_⟩
  refine thn (hl.run pins s sg H _ I h) fun v s1 ⟨x, H1, I1, r1, q1⟩ => ?_
  rcases q1 with q | q | q
  · obtain ⟨a, e, ⟨xs, hq⟩, q⟩ := q
    subst e
    cases r1
    obtain ⟨its, rv, p, hz⟩ := I1.list hq
    refine wpAny_pyIter_list p.isList ?_
    refine ⟨s1.heap.objs.size, [s1.heap.objs.size], _, _, H1, rfl, I1.kept (t' := s1.toks) fun b o e => Heap.get?_push_of_some _ e, turn_list a _, ⟨_, Heap.get?_push_size _ rfl, rfl, rfl⟩, fun b hb => ?_, q⟩
    have e : b = s1.heap.objs.size := by simpa using hb
    subst e
    exact I1.fpOk (Nat.le_refl _) (I1.hok.fresh (Nat.le_refl _))
  · obtain ⟨a, e, ⟨xs, hq⟩, q⟩ := q
    subst e
    cases r1
    obtain ⟨its, rv, p, hz⟩ := I1.tuple hq
    refine wpAny_pyIter_tuple (show s1.heap.IsTuple a its.toArray from p) ?_
    refine ⟨s1.heap.objs.size, [s1.heap.objs.size], _, _, H1, rfl, I1.kept (t' := s1.toks) fun b o e => Heap.get?_push_of_some _ e, turn_tuple a _, ⟨_, Heap.get?_push_size _ rfl, rfl, rfl⟩, fun b hb => ?_, q⟩
    have e : b = s1.heap.objs.size := by simpa using hb
    subst e
    exact I1.fpOk (Nat.le_refl _) (I1.hok.fresh (Nat.le_refl _))
  · obtain ⟨x, e, q⟩ := q
    subst e
    obtain ⟨t, rfl⟩ := r1
    cases ha : x.cps.all (· < 128)
    · exact wpAny_pyIter_wide ha (pi_one (tk := s1.toks) I1 _ (turn_str _ x t "str_iterator" (.inr rfl)) ⟨_, Heap.get?_push_size _ rfl, rfl, rfl⟩ q)
    · exact wpAny_pyIter_ascii ha (pi_one (tk := s1.toks) I1 _ (turn_str _ x t "str_ascii_iterator" (.inl rfl)) ⟨_, Heap.get?_push_size _ rfl, rfl, rfl⟩ q)
def uSeqI (ue : UE) : UI := fun dl S R X => ue dl S (fun d S1 => ∃ xs, drawD S1 d = some xs ∧ R xs (fun S => drawD S d = some xs) S1) X
theorem di_seq [Tabl] (h : DE X W e te ue) : DI X W tg e (iSeq X.K te) (uSeqI ue) := ⟨pi_any h.run, fun {sg dl L H S T R X' Q} he hs h' hq hx =>
  h.imp he hs h' (fun v d L1 H1 S1 l1 p1 s1 h1 => by
    obtain ⟨xs, e1, h1⟩ := h1
    have sq : seqD S1 d = some xs → (∀ S2, drawD S2 d = seqD S2 d) → (∃ a, v = .ref a ∧ (∃ xs, SqL X.K H1 a xs) ∧ Q (Itl X.K a) H1) ∨ (∃ a, v = .ref a ∧ (∃ xs, SqT X.K H1 a xs) ∧ Q (Itt X.K a) H1) := fun e hd => by
      obtain ⟨a, vs, rfl, h2, _⟩ := s1.seqK p1 e
      rcases h2 with ⟨h0, h2⟩ | ⟨h0, h2⟩
      · refine .inr ⟨a, rfl, ⟨vs, .of h2⟩, hq _ xs (fun S => drawD S d = some xs) L1 H1 S1 l1 s1 ⟨fun i H2 L2 S2 T2 l2 s2 hP hi => ?_, fun i H2 L2 S2 T2 x H3 c l2 s2 hP hd' hy => ?_, fun i H2 L2 S2 T2 l2 s2 hP hi => ?_⟩ h1⟩
        · rw [hd] at hP
          obtain ⟨b, ws, eb, h3, s3, p3⟩ := s2.seqK (l2 _ _ p1) hP
          injection eb with eb
          subst eb
          rcases h3 with ⟨_, h3⟩ | ⟨z, _⟩
          · exact ⟨ws, ws[i]'(by rw [p3.length]; exact hi), .of h3, List.getElem?_eq_getElem _⟩
          · rw [h0] at z; cases z
        · rw [hd] at hP
          obtain ⟨b, ws, eb, h3, s3, p3⟩ := s2.seqK (l2 _ _ p1) hP
          injection eb with eb
          subst eb
          rcases h3 with ⟨_, h3⟩ | ⟨z, _⟩
          · obtain ⟨rfl, hy⟩ := hy
            obtain ⟨w, h4, h5⟩ := p3.get hd'
            have := hy ws (.of h3)
            rw [h4] at this
            injection this with this
            subst this
            exact ⟨_, LaddL.le, h5, s3⟩
          · rw [h0] at z; cases z
        · rw [hd] at hP
          obtain ⟨b, ws, eb, h3, s3, p3⟩ := s2.seqK (l2 _ _ p1) hP
          injection eb with eb
          subst eb
          rcases h3 with ⟨_, h3⟩ | ⟨z, _⟩
          · exact ⟨ws, .of h3, by rw [p3.length, hi]; exact Nat.le_refl _⟩
          · rw [h0] at z; cases z
      · refine .inl ⟨a, rfl, ⟨vs, .of h2⟩, hq _ xs (fun S => drawD S d = some xs) L1 H1 S1 l1 s1 ⟨fun i H2 L2 S2 T2 l2 s2 hP hi => ?_, fun i H2 L2 S2 T2 x H3 c l2 s2 hP hd' hy => ?_, fun i H2 L2 S2 T2 l2 s2 hP hi => ?_⟩ h1⟩
        · rw [hd] at hP
          obtain ⟨b, ws, eb, h3, s3, p3⟩ := s2.seqK (l2 _ _ p1) hP
          injection eb with eb
          subst eb
          rcases h3 with ⟨z, _⟩ | ⟨_, h3⟩
          · rw [h0] at z; cases z
          · exact ⟨ws, ws[i]'(by rw [p3.length]; exact hi), .of h3, List.getElem?_eq_getElem _⟩
        · rw [hd] at hP
          obtain ⟨b, ws, eb, h3, s3, p3⟩ := s2.seqK (l2 _ _ p1) hP
          injection eb with eb
          subst eb
          rcases h3 with ⟨z, _⟩ | ⟨_, h3⟩
          · rw [h0] at z; cases z
          · obtain ⟨rfl, hy⟩ := hy
            obtain ⟨w, h4, h5⟩ := p3.get hd'
            have := hy ws (.of h3)
            rw [h4] at this
            injection this with this
            subst this
            exact ⟨_, LaddL.le, h5, s3⟩
        · rw [hd] at hP
          obtain ⟨b, ws, eb, h3, s3, p3⟩ := s2.seqK (l2 _ _ p1) hP
          injection eb with eb
          subst eb
          rcases h3 with ⟨z, _⟩ | ⟨_, h3⟩
          · rw [h0] at z; cases z
          · exact ⟨ws, .of h3, by rw [p3.length, hi]; exact Nat.le_refl _⟩
    cases d with
    | str z =>
      refine .inr (.inr ⟨z, s1.vstr p1, hq _ xs (fun S => drawD S (.str z) = some xs) L1 H1 S1 l1 s1 ⟨fun i H2 L2 S2 T2 l2 s2 hP hi => ?_, fun i H2 L2 S2 T2 x H3 c l2 s2 hP hd' hy => ?_, fun i H2 L2 S2 T2 l2 s2 hP hi => ?_⟩ h1⟩)
      · simp only [drawD, Option.some.injEq] at hP
        rw [← hP] at hi
        show i < z.cps.size
        simpa using hi
      · simp only [drawD, Option.some.injEq] at hP
        obtain ⟨rfl, c', hc, rfl⟩ := hy
        rw [← hP, List.getElem?_map, show z.cps.toList[i]? = some c' by simpa using hc] at hd'
        injection hd' with hd'
        subst hd'
        exact ⟨Ladd L2 _ _, Ladd.le, Ladd.here, s2.flat rfl⟩
      · simp only [drawD, Option.some.injEq] at hP
        show z.cps.size ≤ i
        rw [hi, ← hP]
        simp
    | lst zs => exact (sq e1 fun _ => rfl).elim .inl fun z => .inr (.inl z)
    | tup zs => exact (sq e1 fun _ => rfl).elim .inl fun z => .inr (.inl z)
    | cell n => exact (sq e1 fun _ => rfl).elim .inl fun z => .inr (.inl z)
    | _ => simp [drawD, seqD] at e1) hx⟩
/-- ranges -/
def rangeD (lo : Int) (n : Nat) : List Dat := (List.range n).map fun (i : Nat) => Dat.int (lo + (i : Int))
theorem itr_ok [Tabl] {lo : Int} {n : Nat} {L : LL} : ItI (Itr lo n) (rangeD lo n) L (fun _ => True) :=
  ⟨fun i H2 L2 S2 T2 l2 s2 hP hi => by show i < n; simpa [rangeD] using hi, fun i H2 L2 S2 T2 x H3 c l2 s2 hP hd' hy => by
    obtain ⟨rfl, rfl⟩ := hy
    simp only [rangeD, List.getElem?_map, Option.map_eq_some_iff] at hd'
    obtain ⟨j, hj, rfl⟩ := hd'
    have := List.getElem?_eq_some_iff.mp hj
    obtain ⟨h1, h2⟩ := this
    simp at h2
    subst h2
    exact ⟨Ladd L2 _ _, Ladd.le, Ladd.here, s2.flat rfl⟩, fun i H2 L2 S2 T2 l2 s2 hP hi => by
    show n ≤ i
    rw [hi]; simp [rangeD]⟩
def uR1 (ua : UA) : UI := fun dl S R X => ua dl S (fun ds S1 => match ds with
  | [.int j] => (-(2 ^ 62) ≤ j ∧ j < 2 ^ 62) ∧ R (rangeD 0 j.toNat) (fun _ => True) S1
  | _ => False) X
def uR2 (ua : UA) : UI := fun dl S R X => ua dl S (fun ds S1 => match ds with
  | [.int i, .int j] => (-(2 ^ 62) ≤ i ∧ i < 2 ^ 62 ∧ -(2 ^ 62) ≤ j ∧ j < 2 ^ 62) ∧ R (rangeD i (j - i).toNat) (fun _ => True) S1
  | _ => False) X
theorem di_range1 [Tabl] (hm : X.mg "range" = none) (ha : DA X W [a] ta ua) (hg : Gl X "range" := by rfl) (hs : starEach [a] X.env = [(false, eval a X.env)] := by rfl) : DI X W tg (.Call (.Name "range" p) [a] [] pos) (iRng1 ta) (uR1 ua) :=
  ⟨pi_range1 hg hm ha.run hs, fun {sg dl L H S T R X' Q} he hs h hq hx => ha.imp he hs h (fun vs ds L1 H1 S1 l1 p1 s1 h1 => by
    match ds, p1, h1 with
    | [.int j], p1, h1 =>
      obtain ⟨v, rfl, pv⟩ := p1.one
      rw [s1.vint pv]
      exact ⟨j, rfl, h1.1.1, h1.1.2, hq _ _ _ L1 H1 S1 l1 s1 itr_ok h1.2⟩) hx⟩
theorem di_range2 [Tabl] (hm : X.mg "range" = none) (ha : DA X W [a, b] ta ua) (hg : Gl X "range" := by rfl) (hs : starEach [a, b] X.env = [(false, eval a X.env), (false, eval b X.env)] := by rfl) (hs2 : starEach [b] X.env = [(false, eval b X.env)] := by rfl) : DI X W tg (.Call (.Name "range" p) [a, b] [] pos) (iRng2 ta) (uR2 ua) :=
  ⟨pi_range2 hg hm ha.run hs hs2, fun {sg dl L H S T R X' Q} he hs h hq hx => ha.imp he hs h (fun vs ds L1 H1 S1 l1 p1 s1 h1 => by
    match ds, p1, h1 with
    | [.int i, .int j], p1, h1 =>
      obtain ⟨v, w, rfl, pv, pw⟩ := p1.two
      rw [s1.vint pv, s1.vint pw]
      exact ⟨i, j, rfl, h1.1, hq _ _ _ L1 H1 S1 l1 s1 itr_ok h1.2⟩) hx⟩
end
end DL
/-! DL8: short words for what the printer prints. -/
namespace DL
open PySem L2
abbrev gSub : G2 := gInt0 fun i j => i - j
abbrev gMul : G2 := gInt CMul fun i j => i * j
abbrev gMod : G2 := gInt (fun _ j => 0 < j) fun i j => i % j
abbrev gFdiv : G2 := gInt CDiv fun i j => i / j
abbrev gPow : G2 := gInt CPow fun i j => i ^ j.toNat
abbrev gNeg : G1 := fun d S K => match d with
    | .int i => K (.int (-i)) S
    | _ => False
/-- a def that may be called, at f: what it promises; dd: its defaults -/
def Callee [Tabl] (P : Program) (w : World) (K : PySem.W.Frag) (mg : Str → Option Value) (base : Heap) (k : Nat) (f : Addr) (ps : List Str) (F : Spec) (dd : List Dat) : Prop :=
  ∃ fd dl dvs, FnOk P w K mg base (L2.CX P w) k f fd ps (spOf F) ∧ PySem.W.keepIn K (.ref f) = true ∧ Binds K fd ps dl ∧ Vals dvs dl ∧ Flats dd dvs
section
variable {X : Cx} {W : WX} {k j : Nat} {f : Addr} {ps : List Str} {F : Spec} {x : Str} {p pos : Pos} {e : Expr} {es : List Expr} {t : TA} {u : UA} {dd : List Dat}
/-- the reading by values hangs on the defaults: it is told by what it is -/
theorem de_callF [Tabl] {dvs : List V} (c : ∃ fd dl, FnOk X.prog X.w X.K X.mg X.base (L2.CX X.prog X.w) k f fd ps (spOf F) ∧ PySem.W.keepIn X.K (.ref f) = true ∧ Binds X.K fd ps dl ∧ Vals dvs dl ∧ Flats dd dvs) (hr : Room j X.A) (hj : k ≤ j) (hm : X.mg x = some (.ref f)) (tk : Takes X W)
    (ha : DA X W (e :: es) t u) (hg : Gl X x := by rfl) (hdb : (x == ("__debug__" : Str)) = false := by decide) (he : starEach (e :: es) X.env = (false, eval e X.env) :: starEach es X.env := by rfl) (hpl : (backTo pos (starEach es X.env)).any (·.1) = false := by rfl) :
    DE X W (.Call (.Name x p) (e :: es) [] pos) (tCallSD (spOf F) dvs (WE W) t) (uCall F dd u) := by
  obtain ⟨fd, dl, h1, h2, h3, h4, h5⟩ := c
  exact de_call h1 (hr.mono hj) hm h2 h3 h4 h5 tk ha hg hdb he hpl
theorem de_gint [Tabl] {i : Int} (h : ∃ t, X.mg x = some (.int i t)) (hg : Gl X x := by rfl) (hd : (x == ("__debug__" : Str)) = false := by decide) : DE X W (.Name x pos) (tC (.int i)) (uC (.int i)) := by
  obtain ⟨t, h⟩ := h
  exact de_glob (d := .int i) (v := .int i) h ⟨t, rfl⟩ rfl hg hd
theorem de_gstr [Tabl] {i : Str} (h : ∃ t, X.mg x = some (.str i t)) (hg : Gl X x := by rfl) (hd : (x == ("__debug__" : Str)) = false := by decide) : DE X W (.Name x pos) (tC (.str i)) (uC (.str i)) := by
  obtain ⟨t, h⟩ := h
  exact de_glob (d := .str i) (v := .str i) h ⟨t, rfl⟩ rfl hg hd
end
/-- the same, the defaults' values told -/
def CalleeV [Tabl] (P : Program) (w : World) (K : PySem.W.Frag) (mg : Str → Option Value) (base : Heap) (k : Nat) (f : Addr) (ps : List Str) (F : Spec) (dd : List Dat) (dvs : List V) : Prop :=
  ∃ fd dl, FnOk P w K mg base (L2.CX P w) k f fd ps (spOf F) ∧ PySem.W.keepIn K (.ref f) = true ∧ Binds K fd ps dl ∧ Vals dvs dl ∧ Flats dd dvs
end DL
/-! DL8K: the rules that name the frozen part, with its name told (for what stands in a comprehension). -/
namespace DL
open PySem L2
section
variable {X : Cx} {W : WX} {a b c e o : Expr} {es rest : List Expr} {ta tb tc te to : TE} {ua ub uc ue uo : UE} {tA tB' : TT} {uA uB : UT} {t : TA} {u : UA} {pos p tpos : Pos} {r r' : R2} {g g' : G2} (KK : PySem.W.Frag) (hK : X.K = KK)
include hK
theorem dt_truK [Tabl] (ha : DE X W a ta ua) (hh : ∀ whole, isTrue a X.env whole = (do let v ← whole; standAt a.pos; holding [v] (truthy v)) := by intro _; rfl) : DT X W a (fun sg H Q => ta sg H fun x H' => ∃ k, TruV KK x H' k ∧ Q k H') (uTru ua) := by subst hK; exact dt_tru ha hh
theorem de_andK [Tabl] (ha : DE X W a ta ua) (hb : DE X W (.BoolOp .And (b :: rest) pos) tb ub) : DE X W (.BoolOp .And (a :: b :: rest) pos) (tAndT KK ta tb) (uAndV ua ub) := by subst hK; exact de_and ha hb
theorem de_orK [Tabl] (ha : DE X W a ta ua) (hb : DE X W (.BoolOp .Or (b :: rest) pos) tb ub) : DE X W (.BoolOp .Or (a :: b :: rest) pos) (tOrT KK ta tb) (uOrV ua ub) := by subst hK; exact de_or ha hb
theorem de_notK [Tabl] (ha : DE X W a ta ua) : DE X W (.UnaryOp .Not a pos) (tNotT KK ta) (uNotV ua) := by subst hK; exact de_not ha
theorem dg_tupK [Tabl] {tr : TGs} {ur : UGs} {ts : List Nat} {k n : Nat} (hc : X.calm = true) (h : DGs X W es tr ur ts) (hn : (assignEach es X.env).length = n := by rfl) (hst : (assignEach es X.env).findIdx? (·.1) = none := by rfl) : DG X W (.Tuple es k pos) (gTup KK n tr) (uGTup n ur) ts := by subst hK; exact dg_tup hc h hn hst
theorem dop_addK [Tabl] : DOp X (binaryOp .Add) (rAddG KK) gAdd := by subst hK; exact dop_add
theorem dop_eqK [Tabl] (hu : X.A.units + 64 < cLine) : DOp X (compareOp .Eq) (fun x y H Q => rEq x y H Q ∨ rEqD KK x y H Q) gEq := by subst hK; exact dop_eq hu
theorem dop_neK [Tabl] (hu : X.A.units + 64 < cLine) : DOp X (compareOp .NotEq) (fun x y H Q => rNe x y H Q ∨ rNeD KK x y H Q) gNe := by subst hK; exact dop_ne hu
theorem dop_inK [Tabl] : DOp X (compareOp .In) (rInG KK false) (gIn id) := by subst hK; exact dop_in
theorem dop_notinK [Tabl] : DOp X (compareOp .NotIn) (rInG KK true) (gIn (!·)) := by subst hK; exact dop_notin
theorem de_ixK [Tabl] (ha : DE X W a ta ua) (hb : DE X W b tb ub) (hs : PlainIx b := by exact fun _ _ => rfl) : DE X W (.Subscript a b pos) (tOp (rIx KK) ta tb) (uOp gIx ua ub) := by subst hK; exact de_ix ha hb hs
theorem de_slK [Tabl] {lo hi : Option Expr} {tl th : TO} {ul uh : UO} {p2 : Pos} (ha : DE X W a ta ua) (hl : DO X W lo tl ul) (hh : DO X W hi th uh) : DE X W (.Subscript a (.Slice lo hi none p2) pos) (tSl (rSlG KK) ta tl th) (uSl ua ul uh) := by subst hK; exact de_sl ha hl hh
theorem dcb_lenK [Tabl] : DCb X (.builtin "len") (fun xs H Q => ∃ x n, xs = [x] ∧ LenV KK x H n ∧ Q (.int n) H) gLen := by subst hK; exact dcb_len
theorem dcb_isiK [Tabl] : DCb X (.builtin "isinstance") (rIsiG KK) (gIsi KK) := by subst hK; exact dcb_isi
theorem dcb_listK [Tabl] : DCb X (.type "list") (fun xs H Q => ∃ p ys, xs = [.ref p] ∧ (SqL KK H p ys ∨ SqT KK H p ys) ∧ ∀ l, H l = none → Q (.ref l) (upd H l (.lst ys))) gListT := by subst hK; exact dcb_list
theorem dcb_tupleK [Tabl] : DCb X (.type "tuple") (fun xs H Q => ∃ p ys, xs = [.ref p] ∧ ((SqL KK H p ys ∧ ∀ l, H l = none → Q (.ref l) (upd H l (.tup ys))) ∨ (SqT KK H p ys ∧ Q (.ref p) H))) gTupleC := by subst hK; exact dcb_tuple
theorem dcb_allK [Tabl] (hc : X.calm = true) : DCb X (.builtin "all") (rAll KK) (gBools fun bs => bs.all id) := by subst hK; exact dcb_all hc
theorem dcb_anyK [Tabl] (hc : X.calm = true) : DCb X (.builtin "any") (rAny KK) (gBools fun bs => bs.any id) := by subst hK; exact dcb_any hc
theorem dcb_sortedSK [Tabl] : DCb X (.builtin "sorted") (rSortedS KK) (gSortedS fun xs S K => K (.lst xs) S) := by subst hK; exact dcb_sortedS
theorem de_bm0K [Tabl] {r : V → List V → Hp → VK → Prop} {g : GM} {T id : String} {name : Str} {apos cpos : Pos} (pa : PlainAttrs T) (slot : Slot T name id) (hty : typeOf (.builtin id) = pure (.type "method_descriptor")) (hm : DMt X id r g) (ho : DE X W o to uo)
    (hbase : attributeBase o name X.env (eval o X.env) = eval o X.env := by rfl) (hline : (apos.endLine == cpos.line) = true := by rfl) : DE X W (.Call (.Attribute o name apos) [] [] cpos) (tBM0 KK T r to) (uBM0 T g uo) := by subst hK; exact de_bm0 pa slot hty hm ho hbase hline
theorem de_bmK [Tabl] {r : V → List V → Hp → VK → Prop} {g : GM} {T id : String} {name : Str} {apos cpos : Pos} (pa : PlainAttrs T) (slot : Slot T name id) (hty : typeOf (.builtin id) = pure (.type "method_descriptor")) (hm : DMt X id r g) (ho : DE X W o to uo) (ha : DA X W (e :: es) t u)
    (hbase : attributeBase o name X.env (eval o X.env) = eval o X.env := by rfl)
    (hfew : ((backTo cpos (starEach (e :: es) X.env)).all (fun x => !x.1) && (backToKw cpos (keywordEach [] X.env)).all (fun x => x.1.isSome)
      && decide ((e :: es).length + ([] : List Keyword).length + (if ([] : List Keyword).isEmpty then 0 else 1) < 30)) = true := by rfl)
    (hline : (apos.endLine == cpos.line) = true := by rfl) (hs : starEach (e :: es) X.env = (false, eval e X.env) :: starEach es X.env := by rfl) (hplain : (backTo cpos (starEach es X.env)).any (·.1) = false := by rfl) :
    DE X W (.Call (.Attribute o name apos) (e :: es) [] cpos) (tBM KK T r to t) (uBM T g uo u) := by subst hK; exact de_bm pa slot hty hm ho ha hbase hfew hline hs hplain
theorem dmt_joinK [Tabl] : DMt X "str.join" (fun x xs H Q => ∃ a p, ∃ ys : List Str, x = .str a ∧ xs = [.ref p] ∧ (SqL KK H p (ys.map V.str) ∨ SqT KK H p (ys.map V.str)) ∧
    (ys.map (·.length)).sum + ys.length * a.length ≤ 16777216 ∧ Q (.str (Txt.join a ys)) H) gJoin := by subst hK; exact dmt_join
theorem di_seqK [Tabl] {tg : Expr} (h : DE X W e te ue) : DI X W tg e (iSeq KK te) (uSeqI ue) := by subst hK; exact di_seq h
theorem di_zipK [Tabl] {e2 : Expr} {kk : Nat} {elts : List Expr} (hm : X.mg "zip" = none) (ha : DA X W [e, e2] t u) (hg : Gl X "zip" := by rfl)
    (hs : starEach [e, e2] X.env = (false, eval e X.env) :: starEach [e2] X.env := by rfl) (hpl : (backTo pos (starEach [e2] X.env)).any (·.1) = false := by rfl) :
    DI X W (.Tuple elts kk tpos) (.Call (.Name "zip" p) [e, e2] [] pos) (iZ KK t) (uZ u) := by subst hK; exact di_zip hm ha hg hs hpl
end
end DL
/-! DL9: one step of a reading at a time. -/
namespace DL
open PySem L2
def tyD : Dat → String
  | .non => "NoneType" | .bl _ => "bool" | .int _ => "int" | .str _ => "str" | .lst _ => "list" | .tup _ => "tuple" | _ => "?"
section
variable {dl : Env'} {S : Store} {K : KE} {X : KX} {D : DEnds} {i j : Nat} {d d' x y z : Dat} {ua ub uc ue : UE} {tA tB : UT} {u : UA} {a b : US} {g g' : G2} {KT : Bool → Store → Prop} {KA : List Dat → Store → Prop} {xs ys ds : List Dat} {KF : PySem.W.Frag}
theorem x_seq (h : a { D with nx := b D } dl S) : uSeq a b D dl S := h
theorem x_next (h : D.nx dl S) : uNext D dl S := h
theorem x_break (h : D.bk dl S) : uBreak D dl S := h
theorem x_cont (h : D.ct dl S) : uCont D dl S := h
theorem x_drop (h : ue dl S (fun _ S1 => D.nx dl S1) (fun e S1 => D.ex e dl S1)) : uDrop ue D dl S := h
theorem x_ret (h : ue dl S (fun d S1 => D.rt d S1) (fun e S1 => D.ex e dl S1)) : uRet ue D dl S := h
theorem x_retN (h : D.rt .non S) : uRetN D dl S := h
theorem x_ifS (h : tA dl S (fun k S1 => if k = true then a D dl S1 else b D dl S1) (fun e S1 => D.ex e dl S1)) : uIfS tA a b D dl S := h
theorem x_set (h : ue dl S (fun d S1 => i < dl.length ∧ D.nx (dl.set i (some d)) S1) (fun e S1 => D.ex e dl S1)) : uSet i ue D dl S := h
theorem x_asg {ug : UG} (h : ue dl S (fun d S1 => ug d dl S1 D.nx (fun e S1 => D.ex e dl S1)) (fun e S1 => D.ex e dl S1)) : uAsg ue ug D dl S := h
theorem x_par (h : u dl S (fun ds S1 => match ds with
  | [a, b] => i < dl.length ∧ j < dl.length ∧ D.nx ((dl.set i (some a)).set j (some b)) S1
  | _ => False) (fun e S1 => D.ex e dl S1)) : uPar i j u D dl S := h
theorem x_name {KN : Env' → Store → Prop} (h : i < dl.length) (k : KN (dl.set i (some d)) S) : uName i d dl S KN X := ⟨h, k⟩
theorem x_gsub {KN : Env' → Store → Prop} {gs : GS} (h : ua dl S (fun o S1 => ub dl S1 (fun i S2 => gs o i d S2 fun S3 => KN dl S3) X) X) : uGSub ua ub gs d dl S KN X := h
theorem x_gtup {KN : Env' → Store → Prop} {n : Nat} {ug : UGs} (h : xs.length = n) (k : ug xs dl S KN (fun _ _ => False)) : uGTup n ug (.tup xs) dl S KN X := ⟨h, k⟩
theorem x_gnil {KN : Env' → Store → Prop} (k : KN dl S) : uGNil [] dl S KN X := k
theorem x_gcons {KN : Env' → Store → Prop} {ug : UG} {ur : UGs} (k : ug d dl S (fun dl2 S2 => ur xs dl2 S2 KN X) X) : uGCons ug ur (d :: xs) dl S KN X := k
theorem x_var (h : dl[i]? = some (some d)) (k : K d S) : uVar i dl S K X := by unfold uVar; rw [h]; exact k
theorem x_c (k : K d S) : uC d dl S K X := k
theorem x_op (h : ua dl S (fun x S1 => ub dl S1 (fun y S2 => g x y S2 K) X) X) : uOp g ua ub dl S K X := h
theorem x_un {g : G1} (h : ua dl S (fun x S1 => g x S1 K) X) : uUn g ua dl S K X := h
theorem x_nil (h : KA [] S) : uNil dl S KA X := h
theorem x_cons (h : ua dl S (fun x S1 => u dl S1 (fun xs S2 => KA (x :: xs) S2) X) X) : uCons ua u dl S KA X := h
theorem x_tup (h : u dl S (fun xs S1 => xs.length ≤ sizeLine ∧ K (.tup xs) S1) X) : uTup u dl S K X := h
theorem x_lst (h : u dl S (fun xs S1 => xs.length ≤ sizeLine ∧ K (.lst xs) S1) X) : uLst u dl S K X := h
theorem x_lstC (h : u dl S (fun xs S1 => xs.length ≤ sizeLine ∧ K (.cell S1.length) (S1 ++ [.lst xs])) X) : uLstC u dl S K X := h
theorem x_cb {g : GL} (h : u dl S (fun xs S1 => g xs S1 K) X) : uCB g u dl S K X := h
theorem x_call {F : Spec} {dd : List Dat} (h : u dl S (fun ds S1 => F (ds ++ dd) S1 K X) X) : uCall F dd u dl S K X := h
theorem x_if (h : tA dl S (fun c S1 => if c = true then ua dl S1 K X else ub dl S1 K X) X) : uIf tA ua ub dl S K X := h
theorem x_test (h : ua dl S (fun d S1 => match d with
  | .bl b => KT b S1
  | _ => False) X) : uTest ua dl S KT X := h
theorem x_testB {c : Bool} (h : KT c S) : (match (Dat.bl c) with
  | .bl b => KT b S
  | _ => False) := h
theorem x_and (h : tA dl S (fun c S1 => if c = true then tB dl S1 KT X else KT false S1) X) : uAnd tA tB dl S KT X := h
theorem x_or (h : tA dl S (fun c S1 => if c = true then KT true S1 else tB dl S1 KT X) X) : uOr tA tB dl S KT X := h
theorem x_not (h : tA dl S (fun c S1 => KT (!c) S1) X) : uNot tA dl S KT X := h
theorem x_tru (h : ua dl S (fun d S1 => gTru d S1 KT) X) : uTru ua dl S KT X := h
theorem x_andV (h : ua dl S (fun d S1 => gTru d S1 fun c S2 => if c = true then ub dl S2 K X else K d S2) X) : uAndV ua ub dl S K X := h
theorem x_orV (h : ua dl S (fun d S1 => gTru d S1 fun c S2 => if c = true then K d S2 else ub dl S2 K X) X) : uOrV ua ub dl S K X := h
theorem x_notV (h : ua dl S (fun d S1 => gTru d S1 fun c S2 => K (.bl (!c)) S2) X) : uNotV ua dl S K X := h
theorem x_yes (h : KT true S) : uYes dl S KT X := h
theorem x_chain (h : ua dl S (fun x S1 => ub dl S1 (fun y S2 => g x y S2 fun z S3 => match z with
  | .bl c => if c = true then uc dl S3 (fun w S4 => g' y w S4 K) X else K (.bl false) S3
  | _ => False) X) X) : uChain g g' ua ub uc dl S K X := h
theorem x_chainB {c : Bool} {A B : Prop} (h : if c = true then A else B) : (match (Dat.bl c) with
  | .bl c => if c = true then A else B
  | _ => False) := h
/-! tests -/
theorem x_iteT {A B : Prop} (h : A) : if true = true then A else B := h
theorem x_iteF {A B : Prop} (h : B) : if false = true then A else B := h
theorem x_ite {c : Bool} {A B : Prop} (h1 : c = true → A) (h2 : c = false → B) : if c = true then A else B := by
  cases c with
  | true => exact h1 rfl
  | false => exact h2 rfl
theorem x_tN (h : KT false S) : gTru .non S KT := h
theorem x_tB {c : Bool} (h : KT c S) : gTru (.bl c) S KT := h
theorem x_tI {i : Int} (h : KT (i != 0) S) : gTru (.int i) S KT := h
theorem x_tS {s : Str} (hl : s.length ≤ sizeLine) (h : KT ((s.length : Int) != 0) S) : gTru (.str s) S KT := ⟨hl, h⟩
theorem x_tT (h : KT (!xs.isEmpty) S) : gTru (.tup xs) S KT := h
theorem x_tL (h : KT (!xs.isEmpty) S) : gTru (.lst xs) S KT := h
theorem x_tC {n : Nat} (e : S[n]? = some (.lst xs)) (h : KT (!xs.isEmpty) S) : gTru (.cell n) S KT := by show (match S[n]? with | some (.lst xs) => KT (!xs.isEmpty) S | _ => False); rw [e]; exact h
/-! operators -/
variable {m n : Int} {s t : Str} {p q : Bool}
theorem x_addI (k : K (.int (m + n)) S) : gAdd (.int m) (.int n) S K := k
theorem x_addS (h : s.length + t.length ≤ sizeLine) (k : K (.str (s ++ t)) S) : gAdd (.str s) (.str t) S K := ⟨h, k⟩
theorem x_addL (h : xs.length + ys.length ≤ sizeLine) (k : K (.lst (xs ++ ys)) S) : gAdd (.lst xs) (.lst ys) S K := ⟨h, k⟩
theorem x_sub (k : K (.int (m - n)) S) : gSub (.int m) (.int n) S K := k
theorem x_mul (h : CMul m n) (k : K (.int (m * n)) S) : gMul (.int m) (.int n) S K := ⟨h, k⟩
theorem x_mod (h : 0 < n) (k : K (.int (m % n)) S) : gMod (.int m) (.int n) S K := ⟨h, k⟩
theorem x_fdiv (h : CDiv m n) (k : K (.int (m / n)) S) : gFdiv (.int m) (.int n) S K := ⟨h, k⟩
theorem x_pow (h : CPow m n) (k : K (.int (m ^ n.toNat)) S) : gPow (.int m) (.int n) S K := ⟨h, k⟩
theorem x_neg (k : K (.int (-m)) S) : gNeg (.int m) S K := k
theorem x_ltI (k : K (.bl (decide (m < n))) S) : gLt (.int m) (.int n) S K := k
theorem x_leI (k : K (.bl (decide (m ≤ n))) S) : gLe (.int m) (.int n) S K := k
theorem x_gtI (k : K (.bl (decide (n < m))) S) : gGt (.int m) (.int n) S K := k
theorem x_geI (k : K (.bl (decide (n ≤ m))) S) : gGe (.int m) (.int n) S K := k
theorem x_ltS (k : K (.bl (ltS s t)) S) : gLt (.str s) (.str t) S K := k
theorem x_leS (k : K (.bl (!ltS t s)) S) : gLe (.str s) (.str t) S K := k
theorem x_gtS (k : K (.bl (ltS t s)) S) : gGt (.str s) (.str t) S K := k
theorem x_geS (k : K (.bl (!ltS s t)) S) : gGe (.str s) (.str t) S K := k
theorem x_eqI (k : K (.bl (decide (m = n))) S) : gEq (.int m) (.int n) S K := k
theorem x_eqS (k : K (.bl (decide (s = t))) S) : gEq (.str s) (.str t) S K := k
theorem x_eqB (k : K (.bl (decide (p = q))) S) : gEq (.bl p) (.bl q) S K := k
theorem x_neI (k : K (.bl (!decide (m = n))) S) : gNe (.int m) (.int n) S K := k
theorem x_neS (k : K (.bl (!decide (s = t))) S) : gNe (.str s) (.str t) S K := k
theorem x_neB (k : K (.bl (!decide (p = q))) S) : gNe (.bl p) (.bl q) S K := k
theorem x_eqP {p q : PyData} (e : scalD x y = none) (h1 : Py S x p) (h2 : Py S y q) (h3 : SeqAt.shaped p = true) (h4 : SeqAt.shaped q = true) (k : K (.bl (PyData.eqv p q)) S) : gEq x y S K := by
  unfold gEq gEqB; rw [e]; exact ⟨p, q, h1, h2, h3, h4, k⟩
theorem x_neP {p q : PyData} (e : scalD x y = none) (h1 : Py S x p) (h2 : Py S y q) (h3 : SeqAt.shaped p = true) (h4 : SeqAt.shaped q = true) (k : K (.bl (!PyData.eqv p q)) S) : gNe x y S K := by
  unfold gNe gEqB; rw [e]; exact ⟨p, q, h1, h2, h3, h4, k⟩
theorem x_is (h : noRaw x = true) (k : K (.bl (isNonD x)) S) : gIs id x .non S K := ⟨h, k⟩
theorem x_isnot (h : noRaw x = true) (k : K (.bl (!isNonD x)) S) : gIs (!·) x .non S K := ⟨h, k⟩
theorem x_inS {c : Nat} (k : K (.bl (decide (c ∈ s.cps.toList))) S) : gIn id (.str (sgn c)) (.str s) S K := ⟨c, rfl, k⟩
theorem x_notinS {c : Nat} (k : K (.bl (!decide (c ∈ s.cps.toList))) S) : gIn (!·) (.str (sgn c)) (.str s) S K := ⟨c, rfl, k⟩
theorem x_ixL (e : seqD S x = some xs) (h : atI xs m = some d) (k : K d S) : gIx x (.int m) S K := by
  unfold gIx
  cases x with
  | str z => simp [seqD] at e
  | _ => exact ⟨xs, d, e, h, k⟩
theorem x_ixS {c : Nat} (hl : s.length ≤ sizeLine) (h : atI s.cps.toList m = some c) (k : K (.str (sgn c)) S) : gIx (.str s) (.int m) S K := ⟨hl, c, h, k⟩
/-! built-ins -/
theorem x_lenS (hl : s.length ≤ sizeLine) (k : K (.int s.length) S) : gLen [.str s] S K := ⟨hl, k⟩
theorem x_lenL (e : seqD S x = some xs) (k : K (.int xs.length) S) : gLen [x] S K := by
  unfold gLen
  cases x with
  | str z => simp [seqD] at e
  | _ => exact ⟨xs, e, k⟩
theorem x_intI (k : K (.int m) S) : gInt1 [.int m] S K := k
theorem x_intB (k : K (.int (if p then 1 else 0)) S) : gInt1 [.bl p] S K := k
theorem x_strI (h : m.natAbs.log2 < 1920) (k : K (.str (toString m)) S) : gStr1 [.int m] S K := ⟨h, k⟩
theorem x_abs (k : K (.int (if m < 0 then -m else m)) S) : gAbs [.int m] S K := k
theorem x_isi {t : String} {T : String} (e : tyS S d = some t) (hT : T ∈ tyNames) (k : K (.bl (isB t T)) S) : gIsi KF [d, .raw (.ty T)] S K := by
  refine ⟨isB t T, ?_, k⟩
  unfold isOne
  rw [e]
  exact ⟨hT, rfl⟩
theorem x_isi2 {t T1 T2 : String} (e : tyS S d = some t) (h1 : T1 ∈ tyNames) (h2 : T2 ∈ tyNames) (k : K (.bl (isB t T1 || isB t T2)) S) : gIsi KF [d, .tup [.raw (.ty T1), .raw (.ty T2)]] S K := by
  have o : ∀ T ∈ tyNames, isOne KF S d (.raw (.ty T)) (isB t T) := fun T hT => by unfold isOne; rw [e]; exact ⟨hT, rfl⟩
  refine ⟨rfl, _, ⟨isB t T1, o T1 h1, fun z => by rw [z]; rfl, fun z => ⟨isB t T2, o T2 h2, fun z2 => by rw [z, z2]; rfl, fun z2 => by rw [z, z2]; rfl⟩⟩, k⟩
theorem x_isiD {T : String} (e : tyS S d = some (tyD d)) (hT : T ∈ tyNames) (k : K (.bl (isB (tyD d) T)) S) : gIsi KF [d, .raw (.ty T)] S K := x_isi e hT k
theorem x_isiD2 {T1 T2 : String} (e : tyS S d = some (tyD d)) (h1 : T1 ∈ tyNames) (h2 : T2 ∈ tyNames) (k : K (.bl (isB (tyD d) T1 || isB (tyD d) T2)) S) : gIsi KF [d, .tup [.raw (.ty T1), .raw (.ty T2)]] S K := x_isi2 e h1 h2 k
theorem x_list (e : seqD S x = some xs) (k : K (.lst xs) S) : gListT [x] S K := ⟨xs, e, k⟩
theorem x_listC (e : seqD S x = some xs) (k : K (.cell S.length) (S ++ [.lst xs])) : gListC [x] S K := ⟨xs, e, k⟩
theorem x_tuple (e : seqD S x = some xs) (k : K (.tup xs) S) : gTupleC [x] S K := ⟨xs, e, k⟩
theorem x_bools {f : List Bool → Bool} {bs : List Bool} (e : lstD S x = some (bs.map Dat.bl)) (k : K (.bl (f bs)) S) : gBools f [x] S K := ⟨bs, e, k⟩
theorem x_bm {g : GM} {T : String} (h : ua dl S (fun d S1 => isT T S1 d ∧ u dl S1 (fun xs S2 => g d xs S2 K) X) X) : uBM T g ua u dl S K X := h
theorem x_bm0 {g : GM} {T : String} (h : ua dl S (fun d S1 => isT T S1 d ∧ g d [] S1 K) X) : uBM0 T g ua dl S K X := h
theorem x_append {n : Nat} (e : S[n]? = some (.lst xs)) (h : xs.length < sizeLine) (k : K .non (S.set n (.lst (xs ++ [y])))) : gAppend (.cell n) [y] S K := ⟨xs, e, h, k⟩
theorem x_join {ss : List Str} (e : seqD S y = some (ss.map Dat.str)) (h : (ss.map (·.length)).sum + ss.length * s.length ≤ 16777216) (k : K (.str (Txt.join s ss)) S) : gJoin (.str s) [y] S K := ⟨ss, e, h, k⟩
theorem x_setL {n j : Nat} {KS : Store → Prop} (e : S[n]? = some (.lst xs)) (h : ixN xs.length m = some j) (k : KS (S.set n (.lst (xs.set j d)))) : gSetL (.cell n) (.int m) d S KS := ⟨xs, j, e, h, k⟩
theorem x_part (h : ua dl S (fun d S1 => match d with
  | .int i => KO (some i) S1
  | _ => False) X) : uPart ua dl S KO X := h
theorem x_no {KO : Option Int → Store → Prop} (h : KO none S) : uNo dl S KO X := h
theorem x_partI {KO : Option Int → Store → Prop} (h : KO (some m) S) : (match (Dat.int m) with
  | .int i => KO (some i) S
  | _ => False) := h
theorem x_sl {ul uh : UO} (h : ua dl S (fun d S1 => ul dl S1 (fun l S2 => uh dl S2 (fun h S3 => gSl d l h S3 K) X) X) X) : uSl ua ul uh dl S K X := h
theorem x_slS {lo hi : Option Int} (hl : s.length ≤ sizeLine) (k : K (.str (cutS s lo hi)) S) : gSl (.str s) lo hi S K := ⟨hl, k⟩
theorem x_slL {lo hi : Option Int} (k : K (.lst (cutD xs lo hi)) S) : gSl (.lst xs) lo hi S K := k
theorem x_slC {lo hi : Option Int} {n : Nat} (e : S[n]? = some (.lst xs)) (k : K (.lst (cutD xs lo hi)) S) : gSl (.cell n) lo hi S K := by
  show (match view S (.cell n) with | some (.lst xs) => K (.lst (cutD xs lo hi)) S | _ => False)
  rw [show view S (.cell n) = some (.lst xs) from e]; exact k
/-! what is walked -/
variable {R : List Dat → (Store → Prop) → Store → Prop}
theorem x_seqI (h : ua dl S (fun d S1 => ∃ xs, drawD S1 d = some xs ∧ R xs (fun S => drawD S d = some xs) S1) X) : uSeqI ua dl S R X := h
theorem x_r1 (h : u dl S (fun ds S1 => match ds with
  | [.int j] => (-(2 ^ 62) ≤ j ∧ j < 2 ^ 62) ∧ R (rangeD 0 j.toNat) (fun _ => True) S1
  | _ => False) X) : uR1 u dl S R X := h
theorem x_r2 (h : u dl S (fun ds S1 => match ds with
  | [.int i, .int j] => (-(2 ^ 62) ≤ i ∧ i < 2 ^ 62 ∧ -(2 ^ 62) ≤ j ∧ j < 2 ^ 62) ∧ R (rangeD i (j - i).toNat) (fun _ => True) S1
  | _ => False) X) : uR2 u dl S R X := h
theorem x_z (h : u dl S (fun ds S1 => match ds with
  | [a, b] => ∃ xs ys, drawD S1 a = some xs ∧ drawD S1 b = some ys ∧ R (pairs xs ys) (fun S => drawD S a = some xs ∧ drawD S b = some ys) S1
  | _ => False) X) : uZ u dl S R X := h
/-- a comprehension that keeps the store: each item gives one, or none -/
theorem lc_pick {own : List Nat} {ug : UG} {tt : UT} {P : Store → Prop} {fin : List Dat → Store → KE → Prop} (f : Dat → Option Dat) (hP : P S) (hsz : xs.length ≤ sizeLine)
    (hs : ∀ (j : Nat) d (Kt : Dat → Store → Prop) (Kf : Store → Prop), xs[j]? = some d → (∀ y, f d = some y → Kt y S) → (f d = none → Kf S) →
      ug d (wipeD dl own) S (fun dl2 S3 => tt dl2 S3 (fun b S4 => if b = true then ue dl2 S4 Kt XF0 else Kf S4) XF0) XF0)
    (k : fin (xs.filterMap f) S K) : ∃ I : Nat → List Dat → Store → Prop, I 0 [] S ∧
  (∀ (j : Nat) d acc S2, xs[j]? = some d → I j acc S2 → P S2 ∧ acc.length < sizeLine ∧ ug d (wipeD dl own) S2 (fun dl2 S3 => tt dl2 S3 (fun b S4 => if b = true then ue dl2 S4 (fun y S5 => I (j + 1) (acc ++ [y]) S5) XF0 else I (j + 1) acc S4) XF0) XF0) ∧
  ∀ acc S2, I xs.length acc S2 → P S2 ∧ fin acc S2 K := by
  refine ⟨fun j acc S' => S' = S ∧ acc = (xs.take j).filterMap f, ⟨rfl, by simp⟩, ?_, ?_⟩
  · rintro j d acc S2 hj ⟨rfl, rfl⟩
    have hlt := (List.getElem?_eq_some_iff.mp hj).1
    have et : xs.take (j + 1) = xs.take j ++ [d] := by rw [List.take_add_one, hj]; rfl
    refine ⟨hP, ?_, hs j d _ _ hj (fun y e => ?_) (fun e => ?_)⟩
    · have h1 : ((xs.take j).filterMap f).length ≤ (xs.take j).length := List.length_filterMap_le ..
      rw [List.length_take] at h1
      omega
    · refine ⟨rfl, ?_⟩
      rw [et, List.filterMap_append]
      simp [e]
    · refine ⟨rfl, ?_⟩
      rw [et, List.filterMap_append]
      simp [e]
  · rintro acc S2 ⟨rfl, rfl⟩
    rw [List.take_length]
    exact ⟨hP, k⟩
theorem lc_map {own : List Nat} {ug : UG} {tt : UT} {P : Store → Prop} {fin : List Dat → Store → KE → Prop} (f : Dat → Dat) (hP : P S) (hsz : xs.length ≤ sizeLine)
    (hs : ∀ (j : Nat) d (Kt : Dat → Store → Prop) (Kf : Store → Prop), xs[j]? = some d → Kt (f d) S →
      ug d (wipeD dl own) S (fun dl2 S3 => tt dl2 S3 (fun b S4 => if b = true then ue dl2 S4 Kt XF0 else Kf S4) XF0) XF0)
    (k : fin (xs.map f) S K) : ∃ I : Nat → List Dat → Store → Prop, I 0 [] S ∧
  (∀ (j : Nat) d acc S2, xs[j]? = some d → I j acc S2 → P S2 ∧ acc.length < sizeLine ∧ ug d (wipeD dl own) S2 (fun dl2 S3 => tt dl2 S3 (fun b S4 => if b = true then ue dl2 S4 (fun y S5 => I (j + 1) (acc ++ [y]) S5) XF0 else I (j + 1) acc S4) XF0) XF0) ∧
  ∀ acc S2, I xs.length acc S2 → P S2 ∧ fin acc S2 K :=
  lc_pick (fun d => some (f d)) hP hsz (fun j d Kt Kf hj h1 _ => hs j d Kt Kf hj (h1 _ rfl)) (by rw [show (fun d => some (f d)) = some ∘ f from rfl, List.filterMap_eq_map]; exact k)
theorem lc_pickG {own : List Nat} {ug : UG} {tt : UT} {P : Store → Prop} {G : List Dat → Store → Prop} (f : Dat → Option Dat) (hP : P S) (hsz : xs.length ≤ sizeLine)
    (hs : ∀ (j : Nat) d (Kt : Dat → Store → Prop) (Kf : Store → Prop), xs[j]? = some d → (∀ y, f d = some y → Kt y S) → (f d = none → Kf S) →
      ug d (wipeD dl own) S (fun dl2 S3 => tt dl2 S3 (fun b S4 => if b = true then ue dl2 S4 Kt XF0 else Kf S4) XF0) XF0)
    (k : G (xs.filterMap f) S) : ∃ I : Nat → List Dat → Store → Prop, I 0 [] S ∧
  (∀ (j : Nat) d acc S2, xs[j]? = some d → I j acc S2 → P S2 ∧ acc.length < sizeLine ∧ ug d (wipeD dl own) S2 (fun dl2 S3 => tt dl2 S3 (fun b S4 => if b = true then ue dl2 S4 (fun y S5 => I (j + 1) (acc ++ [y]) S5) XF0 else I (j + 1) acc S4) XF0) XF0) ∧
  ∀ acc S2, I xs.length acc S2 → P S2 ∧ G acc S2 := by
  refine ⟨fun j acc S' => S' = S ∧ acc = (xs.take j).filterMap f, ⟨rfl, by simp⟩, ?_, ?_⟩
  · rintro j d acc S2 hj ⟨rfl, rfl⟩
    have hlt := (List.getElem?_eq_some_iff.mp hj).1
    have et : xs.take (j + 1) = xs.take j ++ [d] := by rw [List.take_add_one, hj]; rfl
    refine ⟨hP, ?_, hs j d _ _ hj (fun y e => ?_) (fun e => ?_)⟩
    · have h1 : ((xs.take j).filterMap f).length ≤ (xs.take j).length := List.length_filterMap_le ..
      rw [List.length_take] at h1
      omega
    · refine ⟨rfl, ?_⟩
      rw [et, List.filterMap_append]
      simp [e]
    · refine ⟨rfl, ?_⟩
      rw [et, List.filterMap_append]
      simp [e]
  · rintro acc S2 ⟨rfl, rfl⟩
    rw [List.take_length]
    exact ⟨hP, k⟩
theorem x_lcW {ui : UI} {own : List Nat} {ug : UG} {tt : UT} {fin : List Dat → Store → KE → Prop} (h : ui dl S (fun ds P S1 => ∃ I : Nat → List Dat → Store → Prop, I 0 [] S1 ∧
  (∀ (j : Nat) d acc S2, ds[j]? = some d → I j acc S2 → P S2 ∧ acc.length < sizeLine ∧ ug d (wipeD dl own) S2 (fun dl2 S3 => tt dl2 S3 (fun b S4 => if b = true then ue dl2 S4 (fun y S5 => I (j + 1) (acc ++ [y]) S5) XF0 else I (j + 1) acc S4) XF0) XF0) ∧
  ∀ acc S2, I ds.length acc S2 → P S2 ∧ fin acc S2 K) X) : uLcW ui own ug tt ue fin dl S K X := h
theorem x_lc {ui : UI} {own : List Nat} {ug : UG} {tt : UT} (h : uLcW ui own ug tt ue (fun acc S K => K (.lst acc) S) dl S K X) : uLc ui own ug tt ue dl S K X := h
theorem x_lcC {ui : UI} {own : List Nat} {ug : UG} {tt : UT} (h : uLcW ui own ug tt ue (fun acc S K => K (.cell S.length) (S ++ [.lst acc])) dl S K X) : uLcC ui own ug tt ue dl S K X := h
/-! ways out -/
theorem x_for {ui : UI} {ug : UG} {b : US} {D : DEnds} {dl : Env'} {S : Store} (h : ui dl S (fun ds P S1 => ∃ I : Nat → Env' → Store → Prop, I 0 dl S1 ∧
  (∀ (i : Nat) d dl1 S2, ds[i]? = some d → I i dl1 S2 → P S2 ∧ ug d dl1 S2 (fun dl2 S3 => b { D with nx := GcTo S1.length (I (i + 1)), ct := GcTo S1.length (I (i + 1)), bk := D.nx } dl2 S3) (fun e S3 => D.ex e dl1 S3)) ∧
  ∀ dl1 S2, I ds.length dl1 S2 → P S2 ∧ D.nx dl1 S2) (fun e S1 => D.ex e dl S1)) : uFor ui ug b D dl S := h
theorem x_slQ {KF : PySem.W.Frag} {dl : Env'} {S : Store} {K : KE} {X : KX} {ua : UE} {ul uh : UO} (h : ua dl S (fun d S1 => ul dl S1 (fun l S2 => uh dl S2 (fun h S3 => ∃ (ns ms : List Int), d = .sq KF ns ∧ cutV (ns.map V.int) l h = ms.map V.int ∧ K (.lst (ms.map .int)) S3) X) X) X) : uSlQ KF ua ul uh dl S K X := h
theorem x_putL {i : Nat} {dl : Env'} {P : Prop} (h : Nat.blt i dl.length = true) (k : P) : i < dl.length ∧ P := ⟨Nat.le_of_ble_eq_true h, k⟩
theorem x_szL {xs : List Dat} {P : Prop} (h : Nat.ble xs.length sizeLine = true) (k : P) : xs.length ≤ sizeLine ∧ P := ⟨Nat.le_of_ble_eq_true h, k⟩
theorem x_rtE {S : Store} {K : KE} {X : KX} {d : Dat} {S' : Store} (h : ExitTo S K d S') : (endsOf S K X).rt d S' := h
theorem x_iteT2 {c : Bool} {A B : Prop} (e : c = true) (h : A) : if c = true then A else B := by rw [if_pos e]; exact h
theorem x_iteF2 {c : Bool} {A B : Prop} (e : c = false) (h : B) : if c = true then A else B := by rw [if_neg (by rw [e]; decide)]; exact h
theorem below_ints {n : Nat} : ∀ ns : List Int, belows n (ns.map Dat.int)
  | [] => by simp only [List.map_nil, belows]
  | a :: r => by simp only [List.map_cons, belows, below, true_and]; exact below_ints r
theorem below_strs {n : Nat} : ∀ ns : List Str, belows n (ns.map Dat.str)
  | [] => by simp only [List.map_nil, belows]
  | a :: r => by simp only [List.map_cons, belows, below, true_and]; exact below_strs r
/-- nothing of the caller's changes; what comes back has no cell of the def's own -/
theorem exit_pure {S0 R : Store} (hb : below S0.length d) (k : K d S0) : ExitTo S0 K d (S0 ++ R) := ⟨S0, d, ⟨⟨R, rfl⟩, Nat.le_refl _, .inl rfl⟩, .same hb, k⟩
theorem exit_here {S0 : Store} (hb : below S0.length d) (k : K d S0) : ExitTo S0 K d S0 := ⟨S0, d, ⟨⟨[], by simp⟩, Nat.le_refl _, .inl rfl⟩, .same hb, k⟩
theorem belows_set {n j : Nat} {ds : List Dat} (h : belows n ds) (hd : below n d) : belows n (ds.set j d) := by
  induction ds generalizing j with
  | nil => simpa using h
  | cons c ds ih =>
    simp only [belows] at h
    cases j with
    | zero => simp only [List.set_cons_zero, belows]; exact ⟨hd, h.2⟩
    | succ j => simp only [List.set_cons_succ, belows]; exact ⟨h.1, ih h.2⟩
/-- the caller's cell at b has changed -/
theorem exit_set {S0 R : Store} {b : Nat} {c : Dat} (hS : belows S0.length S0) (hc : below S0.length c) (hb : below S0.length d) (k : K d (S0.set b c)) : ExitTo S0 K d (S0.set b c ++ R) :=
  ⟨S0.set b c, d, ⟨⟨R, rfl⟩, by rw [List.length_set]; exact Nat.le_refl _, .inr (by rw [List.length_set]; exact belows_set hS hc)⟩, .same (by rw [List.length_set]; exact hb), k⟩
theorem exit_set0 {S0 : Store} {b : Nat} {c : Dat} (hS : belows S0.length S0) (hc : below S0.length c) (hb : below S0.length d) (k : K d (S0.set b c)) : ExitTo S0 K d (S0.set b c) := by
  have := exit_set (R := []) hS hc hb k
  rwa [List.append_nil] at this
end
/-- a new cell is handed out -/
theorem exit_new {S : Store} {K : KE} {c : Dat} (hS : belows S.length S) (hc : below S.length c) (k : K (.cell S.length) (S ++ [c])) : ExitTo S K (.cell S.length) (S ++ [c]) := by
  refine ⟨S ++ [c], .cell S.length, ⟨⟨[], by simp⟩, by simp, .inr ?_⟩, .same (by simp [below]), k⟩
  have : ∀ {n : Nat} {xs ys : List Dat}, belows n xs → belows n ys → belows n (xs ++ ys) := fun {n xs ys} h1 h2 => by
    induction xs with
    | nil => exact h2
    | cons x xs ih => simp only [belows, List.cons_append] at h1 ⊢; exact ⟨h1.1, ih h1.2⟩
  exact this (belows.mono (by simp) hS) (by simp only [belows, and_true]; exact below.mono (by simp) hc)
end DL
/-! DL10: the ends of the chain: a def without promise, the law's start. -/
namespace DL
open PySem L2
theorem cx_none {P : Program} {w : World} {outer : List Env} {H : Hp} {s : Shared} {e : Value} {s' : Shared} (h : L2.CX P w outer H s (fun _ _ _ => False) e s') : False := by
  obtain ⟨_, _, _, _, _, _, _, _, _, _, _, _, h⟩ := h
  exact h
section
variable {P : Program} {w : World} {K : PySem.W.Frag} {mg : Str → Option Value} {base : Heap} {x qual : Str} {params : Arguments} {body : List Stmt} {scope : Scope} {dvs : List V} {kws : List (Str × V)} {f : Addr} {fd fd2 : FuncData} {N ps : List Str} {k : Nat}
theorem fn_none [Tabl] (F : FunD K x qual params body scope dvs kws f fd) (Sc : FnScope N ps scope) : FnOk P w K mg base (L2.CX P w) (k + 1) f fd ps (spOf fun _ _ _ _ => False) :=
  F.ok Sc (fun vs H Q E h => by obtain ⟨_, _, _, _, _, _, _, _, h, _⟩ := h; exact h.elim) (fun cdv A outer s H vs Q E hr h => by obtain ⟨_, _, _, _, _, _, _, _, h, _⟩ := h; exact h.elim)
theorem funD_one (F : FunD K x qual params body scope dvs kws f fd) {x2 qual2 : Str} {params2 : Arguments} {body2 : List Stmt} {scope2 : Scope} {dvs2 : List V} {kws2 : List (Str × V)} (F2 : FunD K x2 qual2 params2 body2 scope2 dvs2 kws2 f fd2) : fd = fd2 := by
  obtain ⟨_, _, _, _, _, _, _, _, _, _, _, l, _⟩ := F.ex
  obtain ⟨_, _, _, _, _, _, _, _, _, _, _, l2, _⟩ := F2.ex
  rw [l] at l2
  injection l2 with l2
  injection l2 with _ _ l2
  injection l2
end
/-- the law's promise over data -/
def sp_law (K : PySem.W.Frag) : Spec := fun ds S Kt _ => ∃ ns : List Int, ds = [.sq K ns] ∧ ns.length ≤ 63 ∧ (∀ z ∈ ns, Builtin.Int.intBits z ≤ 1048576) ∧ S = [] ∧ ∀ S', Kt (.bl true) S'
theorem len_law {K : PySem.W.Frag} {ds S Kt X} (h : sp_law K ds S Kt X) : ds.length = 1 := by
  obtain ⟨ns, rfl, _⟩ := h
  rfl
/-- no table, no cell: a law without lambdas -/
class NoTab [Tabl] : Prop where
  cels : Tabl.cels = []
  own : ∀ v d, ¬ Tabl.own v d
theorem start_law [Tabl] [NoTab] {K : PySem.W.Frag} {H : Hp} {a : Addr} {ns : List Int} (hl : ns.length ≤ 63) (hb : ∀ z ∈ ns, Builtin.Int.intBits z ≤ 1048576) (hS : SqL K H a (ns.map V.int)) (hT : LamX.Tabs Tabl.tabs H) : spOf (sp_law K) [.ref a] H (fun v _ => v = .bl true) fun _ _ _ => False := by
  refine ⟨[.sq K ns], fun v d => v = .ref a ∧ d = .sq K ns, [], [], fun d _ => d = .bl true, fun _ _ => False, ⟨⟨rfl, rfl⟩, True.intro⟩, ⟨[], rfl, List.nodup_nil, fun n a d e => by simp at e, fun p hp => (List.not_mem_nil hp).elim, fun v d h => ?_, hT, fun a o e => (by rw [NoTab.cels] at e; cases e), fun v d h => (NoTab.own v d h).elim, fun p hp => (List.not_mem_nil hp).elim⟩, ⟨ns, rfl, hl, hb, rfl, fun _ => rfl⟩, ?_, fun _ _ _ _ _ _ _ _ h => h.elim⟩
  · obtain ⟨rfl, rfl⟩ := h
    simp only [RD]
    refine ⟨a, rfl, ?_⟩
    rcases hS with h | h
    · exact .inl ⟨List.not_mem_nil, h⟩
    · exact .inr (.inr h)
  · intro v d L' H' S' _ hp hs hk
    obtain ⟨rho, x⟩ := hs
    have q := x.rd _ _ hp
    rw [hk] at q
    simp only [RD] at q
    exact q
end DL
/-! DL11: instances over data: made, their fields, methods, properties. -/
namespace DL
open PySem PySem.Spec PyProof.Rows L2
/-- an instance as data: its class, its fields' names, what they hold -/
def insD (S : Store) : Dat → Option (Addr × List Str × List Dat)
  | .ins C ns xs => some (C, ns, xs)
  | .cell n => match S[n]? with
    | some (.ins C ns xs) => some (C, ns, xs)
    | _ => none
  | _ => none
section
variable {H : Hp} {L : LL} {S : Store} {T : List (Addr × HO)} {v : V} {d : Dat} {C : Addr} {ns : List Str} {xs : List Dat}
theorem SR.insOf [Tabl] (hs : SR H L S T) (p : L v d) (e : insD S d = some (C, ns, xs)) : ∃ a dx vs, v = .ref a ∧ H a = some (.ins C dx (ns.zip vs)) ∧ ns.length = vs.length ∧ SR H (LaddL L vs xs) S T ∧ Ls (LaddL L vs xs) vs xs := by
  obtain ⟨rho, x⟩ := hs
  have key : ∀ (vs : List V), RDs H (rho ++ T.map (·.1)) rho xs vs → SR H (LaddL L vs xs) S T ∧ Ls (LaddL L vs xs) vs xs := fun vs r => by
    have q := RDs.ls (LR := fun v d => RD H (rho ++ T.map (·.1)) rho d v) (fun _ _ h => h) r
    refine ⟨⟨rho, x.more fun v d z => ?_⟩, Ls.of q.length fun i w c e1 e2 => .inr ⟨i, e1, e2⟩⟩
    rcases z with z | ⟨i, e1, e2⟩
    · exact .inl z
    · obtain ⟨w, e3, r⟩ := q.get e2
      rw [e1] at e3
      injection e3 with e3
      subst e3
      exact .inr r
  cases d with
  | ins C' ns' xs' =>
    simp only [insD, Option.some.injEq, Prod.mk.injEq] at e
    obtain ⟨rfl, rfl, rfl⟩ := e
    have q := x.rd v _ p
    simp only [RD] at q
    obtain ⟨a, dx, vs, e, _, r1, hl, r⟩ := q
    exact ⟨a, dx, vs, e, r1, hl, key vs r⟩
  | cell n =>
    obtain ⟨a, ha, ev⟩ := x.at_ p
    have e : (match S[n]? with
      | some (.ins C ns xs) => some (C, ns, xs)
      | _ => none) = some (C, ns, xs) := e
    cases q : S[n]? with
    | none => rw [q] at e; cases e
    | some d' =>
      rw [q] at e
      cases d' with
      | ins C' ns' xs' =>
        simp only [Option.some.injEq, Prod.mk.injEq] at e
        obtain ⟨rfl, rfl, rfl⟩ := e
        obtain ⟨dx, vs, e1, hl, r⟩ := x.node n a _ ha q
        exact ⟨a, dx, vs, ev, e1, hl, key vs r⟩
      | _ => cases e
  | _ => cases e
theorem SR.beside [Tabl] (hs : SR H L S T) {p : Addr} {o : HO} (hp : H p = none) : SR (upd H p o) L S T := let ⟨rho, x⟩ := hs; ⟨rho, x.new hp⟩
end
theorem zip_none {α : Type} {f : Str} : ∀ {ns : List Str} {vs : List α}, f ∉ ns → (ns.zip vs).lookup f = none
  | [], _, _ => by simp
  | n :: ns, [], _ => by simp
  | n :: ns, v :: vs, h => by
    have h1 : f ≠ n := fun z => h (by rw [z]; exact List.mem_cons_self)
    have h2 : f ∉ ns := fun z => h (List.mem_cons_of_mem _ z)
    rw [List.zip_cons_cons, List.lookup_cons]
    have e : (f == n) = false := by simpa using h1
    rw [e]
    exact zip_none h2
theorem zip_some {L : LL} {f : Str} {x : Dat} : ∀ {ns : List Str} {vs : List V} {xs : List Dat}, Ls L vs xs → (ns.zip xs).lookup f = some x → ∃ v, (ns.zip vs).lookup f = some v ∧ L v x
  | [], vs, xs, _, h => by simp at h
  | n :: ns, [], [], _, h => by simp at h
  | n :: ns, [], _ :: _, q, _ => q.elim
  | n :: ns, _ :: _, [], q, _ => q.elim
  | n :: ns, v :: vs, y :: xs, q, h => by
    rw [List.zip_cons_cons, List.lookup_cons] at h ⊢
    cases e : (f == n) with
    | true =>
      rw [e] at h
      injection h with h
      subst h
      exact ⟨v, rfl, q.1⟩
    | false =>
      rw [e] at h
      exact zip_some q.2 h
/-- a field's name, its data put in -/
def putN (f : Str) : List Str → List Str
  | [] => [f]
  | g :: r => if g = f then g :: r else g :: putN f r
def putX {α : Type} (f : Str) (y : α) : List Str → List α → List α
  | [], _ => [y]
  | g :: r, x :: xs => if g = f then y :: xs else x :: putX f y r xs
  | _ :: _, [] => []
theorem put_zip {f : Str} {v : V} : ∀ {ns : List Str} {vs : List V}, ns.length = vs.length → L2.putF f v (ns.zip vs) = (putN f ns).zip (putX f v ns vs) ∧ (putN f ns).length = (putX f v ns vs).length
  | [], [], _ => ⟨rfl, rfl⟩
  | [], _ :: _, h => by simp at h
  | _ :: _, [], h => by simp at h
  | n :: ns, w :: vs, h => by
    obtain ⟨i1, i2⟩ := put_zip (f := f) (v := v) (ns := ns) (vs := vs) (by simpa using h)
    unfold putN putX
    rw [List.zip_cons_cons]
    unfold L2.putF
    by_cases e : n = f
    · simp only [e, if_true]
      exact ⟨rfl, by simpa using h⟩
    · simp only [if_neg e]
      rw [i1]
      exact ⟨rfl, by simp [i2]⟩
theorem put_ls {L : LL} {f : Str} {v : V} {y : Dat} (p : L v y) : ∀ {ns : List Str} {vs : List V} {xs : List Dat}, Ls L vs xs → ns.length = vs.length → Ls L (putX f v ns vs) (putX f y ns xs)
  | [], [], [], _, _ => ⟨p, True.intro⟩
  | [], _ :: _, _, _, h => by simp at h
  | _ :: _, [], _, _, h => by simp at h
  | [], [], _ :: _, q, _ => q.elim
  | n :: ns, w :: vs, [], q, _ => q.elim
  | n :: ns, w :: vs, x :: xs, q, h => by
    unfold putX
    by_cases e : n = f
    · simp only [e, if_true]; exact ⟨p, q.2⟩
    · simp only [if_neg e]; exact ⟨q.1, put_ls p q.2 (by simpa using h)⟩
/-! ### fields -/
def uFld (Cs : List Addr) (f : Str) (ua : UE) : UE := fun dl S K X => ua dl S (fun d S1 => ∃ C ns xs x, C ∈ Cs ∧ insD S1 d = some (C, ns, xs) ∧ (ns.zip xs).lookup f = some x ∧ K x S1) X
def uSetF (Cs : List Addr) (f : Str) (uo uv : UE) : US := fun D dl S => uv dl S (fun y S1 => uo dl S1 (fun d S2 => ∃ n C ns xs, d = .cell n ∧ S2[n]? = some (.ins C ns xs) ∧ C ∈ Cs ∧ ns.length < 1000 ∧
  D.nx dl (S2.set n (.ins C (putN f ns) (putX f y ns xs)))) (fun e S2 => D.ex e dl S2)) (fun e S1 => D.ex e dl S1)
section
variable {X : Cx} {W : WX} {a o value : Expr} {ta to tv : TE} {ua uo uv : UE} {f : Str} {pos pos' : Pos} {Cs : List Addr}
theorem imp_fld [Tabl] {KK : PySem.W.Frag} (hC : ∀ C ∈ Cs, Cls KK C ∧ NoAttr KK C f) (ha : ImpE W ta ua) : ImpE W (tFld KK ta f) (uFld Cs f ua) := fun {sg dl L H S T K X' Q} he hs h hq hx =>
  ha he hs h (fun v d L1 H1 S1 l1 p1 s1 ⟨C, ns, xs, x, hm, hi, hl, hk⟩ => by
    obtain ⟨b, dx, vs, e, eb, _, s2, q⟩ := s1.insOf p1 hi
    obtain ⟨w, hw, pw⟩ := zip_some q hl
    exact ⟨b, C, dx, _, w, e, eb, (hC C hm).1, (hC C hm).2, hw, hq w x _ H1 S1 (l1.trans LaddL.le) pw s2 hk⟩) hx
theorem de_fld [Tabl] (hC : ∀ C ∈ Cs, Cls X.K C ∧ NoAttr X.K C f) (ha : DE X W a ta ua) (hb : attributeBase a f X.env (eval a X.env) = eval a X.env := by rfl) : DE X W (.Attribute a f pos) (tFld X.K ta f) (uFld Cs f ua) := ⟨pe_fld ha.run hb, imp_fld hC ha.imp⟩
theorem de_fldK [Tabl] (KK : PySem.W.Frag) (hK : X.K = KK) (hC : ∀ C ∈ Cs, Cls KK C ∧ NoAttr KK C f) (ha : DE X W a ta ua) (hb : attributeBase a f X.env (eval a X.env) = eval a X.env := by rfl) : DE X W (.Attribute a f pos) (tFld KK ta f) (uFld Cs f ua) := by
  subst hK; exact de_fld hC ha hb
theorem ds_fld [Tabl] (hC : ∀ C ∈ Cs, Cls X.K C ∧ NoAttr X.K C f) (ho : DE X W o to uo) (hv : DE X W value tv uv) (hs : swapsWith value (some (.Attribute o f pos')) pos.line X.env = pure false := by rfl) :
    DS X W (.Assign [.Attribute o f pos'] value pos) (sFld X.K to tv f) (uSetF Cs f uo uv) :=
  ⟨ps_fld ho.run hv.run hs, fun {sg dl L H S T D D'} he hs h hD => hv.imp he hs h (fun y dy L1 H1 S1 l1 p1 s1 h1 => ho.imp (he.le l1) s1 h1 (fun v d L2 H2 S2 l2 p2 s2 ⟨n, C, ns, xs, hd, hn, hm, hl, hk⟩ => by
    subst hd
    obtain ⟨b, dx, vs, e, eb, len, s3, q⟩ := s2.insOf p2 (C := C) (ns := ns) (xs := xs) (by show (match S2[n]? with | some (.ins C ns xs) => some (C, ns, xs) | _ => none) = _; rw [hn])
    subst e
    obtain ⟨z1, z2⟩ := put_zip (f := f) (v := y) len
    refine ⟨b, C, dx, _, rfl, eb, (hC C hm).1, (hC C hm).2, by rw [List.length_zip]; omega, ?_⟩
    rw [z1]
    have p3 : LaddL L2 vs xs y dy := LaddL.le _ _ (l2 _ _ p1)
    have s4 := s3.set (n := n) (a := b) (d := .ins C (putN f ns) (putX f dy ns xs)) (o := .ins C dx ((putN f ns).zip (putX f y ns vs))) (vs := putX f y ns vs) (LaddL.le _ _ p2) ⟨⟨dx, rfl⟩, z2⟩ (put_ls p3 q len)
    exact hD.nx sg dl _ _ _ ((l1.trans l2).trans LaddL.le) rfl (he.le ((l1.trans l2).trans LaddL.le)) s4 hk) ((hD.le l1).ex.x rfl (he.le l1))) (hD.ex.x rfl he)⟩
end
end DL
/-! DL12: methods, properties, the making of instances. -/
namespace DL
open PySem L2
/-- the class at C has a def m that keeps F -/
def MethV [Tabl] (P : Program) (w : World) (K : PySem.W.Frag) (mg : Str → Option Value) (base : Heap) (k : Nat) (m : Str) (ps : List Str) (dd : List Dat) (dvs : List V) (C : Addr) (F : Spec) : Prop :=
  ∃ f fd dl, Cls K C ∧ Meth K C m f ∧ FnOk P w K mg base (L2.CX P w) k f fd ps (spOf F) ∧ Binds K fd ps dl ∧ Vals dvs dl ∧ Flats dd dvs
/-- .. as a property -/
def PropV [Tabl] (P : Program) (w : World) (K : PySem.W.Frag) (mg : Str → Option Value) (base : Heap) (k : Nat) (m : Str) (C : Addr) (F : Spec) : Prop :=
  ∃ p g fd, Cls K C ∧ PropOf K C m p g ∧ FnOk P w K mg base (L2.CX P w) k g fd ["self"] (spOf F) ∧ Binds K fd ["self"] []
/-- .. as its maker -/
def MakeV [Tabl] (P : Program) (w : World) (K : PySem.W.Frag) (mg : Str → Option Value) (base : Heap) (k : Nat) (ps : List Str) (dd : List Dat) (dvs : List V) (C : Addr) (F : Spec) : Prop :=
  ∃ f fd dl, Mk K C f ∧ FnOk P w K mg base (L2.CX P w) k f fd ps (spOf F) ∧ Binds K fd ps dl ∧ Vals dvs dl ∧ Flats dd dvs
/-- .. made with keywords: n the written arguments with the new one, ks the keywords; gV, gD: how they lie -/
def MakeKV [Tabl] (P : Program) (w : World) (K : PySem.W.Frag) (mg : Str → Option Value) (base : Heap) (k : Nat) (ps : List Str) (n : Nat) (ks : List Str) (gV : List V → List V → List V) (gD : List Dat → List Dat → List Dat) (C : Addr) (F : Spec) : Prop :=
  ∃ f fd g, Mk K C f ∧ FnOk P w K mg base (L2.CX P w) k f fd ps (spOf F) ∧ KBn K fd ps n ks g gV ∧ ∀ {H L S T} {vs : List V} {ds : List Dat} {zs : List V} {es : List Dat}, SR H L S T → Ls L vs ds → Ls L zs es → ∃ L', Lle L L' ∧ Ls L' (gV vs zs) (gD ds es) ∧ SR H L' S T
/-! ### methods -/
def tMethD [Tabl] (MS : List (Addr × Spec)) (m : Str) (dvs : List V) (E : St → XK) (ta : TE) (t : TA) : TE := fun sg H Q => ta sg H fun x H1 => ∃ a C dx fs F, x = .ref a ∧ H1 a = some (.ins C dx fs) ∧ fs.lookup m = none ∧ (C, F) ∈ MS ∧
  t sg H1 fun vs H2 => spOf F (x :: (vs ++ dvs)) H2 Q (E sg)
def uMeth (MS : List (Addr × Spec)) (m : Str) (dd : List Dat) (uo : UE) (ua : UA) : UE := fun dl S K X => uo dl S (fun d S1 => ∃ C ns xs F, insD S1 d = some (C, ns, xs) ∧ m ∉ ns ∧ (C, F) ∈ MS ∧ ua dl S1 (fun ds S2 => F (d :: (ds ++ dd)) S2 K X) X) X
def uProp (MS : List (Addr × Spec)) (uo : UE) : UE := fun dl S K X => uo dl S (fun d S1 => ∃ C ns xs F, insD S1 d = some (C, ns, xs) ∧ (C, F) ∈ MS ∧ F [d] S1 K fun _ _ => False) X
def tPropD [Tabl] (MS : List (Addr × Spec)) (ta : TE) : TE := fun sg H Q => ta sg H fun x H1 => ∃ a C dx fs F, x = .ref a ∧ H1 a = some (.ins C dx fs) ∧ (C, F) ∈ MS ∧ spOf F [.ref a] H1 Q fun _ _ _ => False
section
variable {X : Cx} {W : WX} {k j : Nat} {m x : Str} {ps : List Str} {dd : List Dat} {dvs : List V} {MS : List (Addr × Spec)} {o e : Expr} {es : List Expr} {to : TE} {uo : UE} {t : TA} {u : UA} {apos pos p : Pos} {E : St → XK} {pl : Sem Bool}
theorem pe_methD [Tabl] (hM : ∀ q ∈ MS, MethV X.prog X.w X.K X.mg X.base k m ps dd dvs q.1 q.2) (hr : Room k X.A) (he : PE X o to) (hx : ∀ sg, PassesAt (L2.CX X.prog X.w) X sg (E sg)) (ha : PA X (e :: es) t)
    (hst : starEach (e :: es) X.env = (false, eval e X.env) :: starEach es X.env) (hpl : (backTo pos (starEach es X.env)).any (·.1) = false)
    (ht : eval (.Call (.Attribute o m apos) (e :: es) [] pos) X.env = (do
      let ov ← eval o X.env
      standAt apos.atName
      let (f, first) ← holding [ov] (getMethod ov m pl)
      callWith pos f first (backTo pos (starEach (e :: es) X.env)) (backToKw pos (keywordEach [] X.env)))) : PE X (.Call (.Attribute o m apos) (e :: es) [] pos) (tMethD MS m dvs E to t) := by
  constructor
  intro pins s sg H Q I h
  refine PySem.W.methodCall_KW (pl := pl) (thn (he.run pins s sg H _ I h) fun u s1 ⟨y, H1, I1, ry, a, C, dx, fs, F, ey, ea, l, hm, q⟩ => ?_) ht
  subst ey
  obtain rfl : u = Value.ref a := ry
  obtain ⟨f, fd, dl, c, M, G, b, vd, _⟩ := hM _ hm
  refine getmeth_ok I1 ea c M l ?_
  refine PySem.W.callWith_K (first := [.ref a]) (h₀ := X.base) I.ok.mod.kin M.kp ?_ hst hpl
  exact thn (ha.run pos pins s1 sg H1 _ I1 q) fun us s2 ⟨vs, H2, I2, r, q2⟩ => ⟨I2.kIn, run_fnSD (us := .ref a :: us) (vs := .ref a :: vs) G hr b vd (hx sg) I2 (.cons rfl r) q2⟩
theorem pe_methD0 [Tabl] (hM : ∀ q ∈ MS, MethV X.prog X.w X.K X.mg X.base k m ps dd dvs q.1 q.2) (hr : Room k X.A) (he : PE X o to) (hx : ∀ sg, PassesAt (L2.CX X.prog X.w) X sg (E sg))
    (ht : eval (.Call (.Attribute o m apos) [] [] pos) X.env = (do
      let ov ← eval o X.env
      standAt apos.atName
      let (f, first) ← holding [ov] (getMethod ov m pl)
      callWith pos f first (backTo pos (starEach [] X.env)) (backToKw pos (keywordEach [] X.env)))) : PE X (.Call (.Attribute o m apos) [] [] pos) (tMethD MS m dvs E to tNil) := by
  constructor
  intro pins s sg H Q I h
  refine PySem.W.methodCall_KW (pl := pl) (thn (he.run pins s sg H _ I h) fun u s1 ⟨y, H1, I1, ry, a, C, dx, fs, F, ey, ea, l, hm, q⟩ => ?_) ht
  subst ey
  obtain rfl : u = Value.ref a := ry
  obtain ⟨f, fd, dl, c, M, G, b, vd, _⟩ := hM _ hm
  refine getmeth_ok I1 ea c M l ?_
  exact PySem.W.callWith_K0 (first := [.ref a]) I1.kIn M.kp (run_fnSD (us := [.ref a]) (vs := [.ref a]) G hr b vd (hx sg) I1 (.cons rfl .nil) q)
theorem imp_meth [Tabl] (hM : ∀ q ∈ MS, Flats dd dvs) (ho : ImpE W to uo) (ha : ImpA W t u) : ImpE W (tMethD MS m dvs (WE W) to t) (uMeth MS m dd uo u) := fun {sg dl L H S T K X' Q} he hs h hq hx =>
  ho he hs h (fun v d L1 H1 S1 l1 p1 s1 ⟨C, ns, xs, F, hi, hn, hm, h1⟩ => by
    obtain ⟨b, dx, vs, ev, eb, _, s2, q⟩ := s1.insOf p1 hi
    subst ev
    refine ⟨b, C, dx, _, F, rfl, eb, zip_none hn, hm, ?_⟩
    refine ha (he.le (l1.trans LaddL.le)) s2 h1 (fun ws ds L3 H3 S3 l3 p3 s3 h3 => ?_) (hx.le (l1.trans LaddL.le))
    obtain ⟨L4, l4, p4, s4⟩ := s3.flats (hM _ hm)
    have l04 := ((l1.trans LaddL.le).trans l3).trans l4
    exact ⟨d :: (ds ++ dd), L4, S3, T, K, X', ⟨l4 _ _ (l3 _ _ (LaddL.le _ _ p1)), (p3.le l4).append p4⟩, s4, h3, hq.le l04, fun e dd L' H' S' l => hx e dd L' H' S' (l04.trans l)⟩) hx
theorem de_meth [Tabl] (hM : ∀ q ∈ MS, MethV X.prog X.w X.K X.mg X.base k m ps dd dvs q.1 q.2) (hr : Room j X.A) (hj : k ≤ j) (tk : Takes X W) (ho : DE X W o to uo) (ha : DA X W (e :: es) t u)
    (ht : eval (.Call (.Attribute o m apos) (e :: es) [] pos) X.env = (do
      let ov ← eval o X.env
      standAt apos.atName
      let (f, first) ← holding [ov] (getMethod ov m pl)
      callWith pos f first (backTo pos (starEach (e :: es) X.env)) (backToKw pos (keywordEach [] X.env))) := by rfl)
    (hst : starEach (e :: es) X.env = (false, eval e X.env) :: starEach es X.env := by rfl) (hpl : (backTo pos (starEach es X.env)).any (·.1) = false := by rfl) :
    DE X W (.Call (.Attribute o m apos) (e :: es) [] pos) (tMethD MS m dvs (WE W) to t) (uMeth MS m dd uo u) :=
  ⟨pe_methD hM (hr.mono hj) ho.run (fun sg => passAt tk sg) ha.run hst hpl ht, imp_meth (fun q hq => by obtain ⟨_, _, _, _, _, _, _, _, z⟩ := hM q hq; exact z) ho.imp ha.imp⟩
theorem de_meth0 [Tabl] (hM : ∀ q ∈ MS, MethV X.prog X.w X.K X.mg X.base k m ps dd dvs q.1 q.2) (hr : Room j X.A) (hj : k ≤ j) (tk : Takes X W) (ho : DE X W o to uo)
    (ht : eval (.Call (.Attribute o m apos) [] [] pos) X.env = (do
      let ov ← eval o X.env
      standAt apos.atName
      let (f, first) ← holding [ov] (getMethod ov m pl)
      callWith pos f first (backTo pos (starEach [] X.env)) (backToKw pos (keywordEach [] X.env))) := by rfl) :
    DE X W (.Call (.Attribute o m apos) [] [] pos) (tMethD MS m dvs (WE W) to tNil) (uMeth MS m dd uo uNil) :=
  ⟨pe_methD0 hM (hr.mono hj) ho.run (fun sg => passAt tk sg) ht, imp_meth (fun q hq => by obtain ⟨_, _, _, _, _, _, _, _, z⟩ := hM q hq; exact z) ho.imp (da_nil (X := X)).imp⟩
/-! ### properties -/
theorem cx_no {P : Program} {w : World} {outer : List Env} {H : Hp} {s : Shared} {e : Value} {s' : Shared} (h : L2.CX P w outer H s (fun _ _ _ => False) e s') : False := cx_none h
theorem de_prop [Tabl] (hM : ∀ q ∈ MS, PropV X.prog X.w X.K X.mg X.base k m q.1 q.2) (hr : Room j X.A) (hj : k + 1 ≤ j) (ho : DE X W o to uo) (hb : attributeBase o m X.env (eval o X.env) = eval o X.env := by rfl) :
    DE X W (.Attribute o m pos) (tPropD MS to) (uProp MS uo) := by
  refine ⟨⟨fun pins s sg H Q I h => ?_⟩, fun {sg dl L H S T K X' Q} he hs h hq hx => ?_⟩
  · refine attr_of hb (thn (ho.run.run pins s sg H _ I h) fun u s1 ⟨y, H1, I1, ry, a, C, dx, fs, F, ey, ea, hm, q⟩ => ?_)
    subst ey
    obtain rfl : u = Value.ref a := ry
    obtain ⟨p, g, fd, c, hp, G, b⟩ := hM _ hm
    exact getprop_ok I1 ea c hp G (hr.mono hj) b .nil (fun _ _ _ _ _ _ _ z => (cx_none z).elim) q
  · refine ho.imp he hs h (fun v d L1 H1 S1 l1 p1 s1 ⟨C, ns, xs, F, hi, hm, h1⟩ => ?_) hx
    obtain ⟨b, dx, vs, ev, eb, _, s2, q⟩ := s1.insOf p1 hi
    subst ev
    exact ⟨b, C, dx, _, F, rfl, eb, hm, [d], L1, S1, T, K, _, ⟨p1, True.intro⟩, s1, h1, hq.le l1, fun _ _ _ _ _ _ _ _ z => z.elim⟩
/-! ### making -/
def tMakeD [Tabl] (C : Addr) (F : Spec) (dvs : List V) (E : St → XK) (t : TA) : TE := fun sg H Q => t sg H fun vs H1 => ∀ x dx, H1 x = none → H1 dx = none → dx ≠ x →
  spOf F (.ref x :: (vs ++ dvs)) (upd (upd H1 dx (.own x)) x (.ins C dx [])) (fun v H2 => v = .non ∧ Q (.ref x) H2) (E sg)
def uMake (C : Addr) (F : Spec) (dd : List Dat) (ua : UA) : UE := fun dl S K X => ua dl S (fun ds S1 => F (.cell S1.length :: (ds ++ dd)) (S1 ++ [.ins C [] []]) (fun d S2 => d = .non ∧ ExitTo S1 K (.cell S1.length) S2) (fun e S2 => ExitX S1 X e [] S2)) X
theorem run_mkD {C f : Addr} {fd : FuncData} {dl : List Value} {sp : Sp} {Ex : XK} {pins : List (Addr × Obj)} {sg : St} {H : Hp} {s : Shared} {Q : VK} {us : List Value} {vs : List V} (M : Mk X.K C f) (G : FnOk X.prog X.w X.K X.mg X.base (L2.CX X.prog X.w) k f fd ps sp) (hr : Room (k + 1) X.A) (b : Binds X.K fd ps dl) (vd : Vals dvs dl)
    (hx : PassesAt (L2.CX X.prog X.w) X sg Ex) (I : Inv X pins sg H s) (r : Vals vs us) (h : ∀ x dx, H x = none → H dx = none → dx ≠ x → sp (.ref x :: (vs ++ dvs)) (upd (upd H dx (.own x)) x (.ins C dx [])) (fun v H2 => v = .non ∧ Q (.ref x) H2) Ex) :
    wpAny (model X.prog X.w) X.A (call (.ref C) us) (EP X pins sg Q) X.xe s := by
  have J := Inv.made (C := C) I
  have hq := h _ _ (I.hok.fresh (Nat.le_succ _)) (I.hok.fresh (Nat.le_refl _)) (Nat.ne_of_lt (Nat.lt_succ_self _))
  have rr : Vals (V.ref (s.heap.objs.size + 1) :: (vs ++ dvs)) (Value.ref (s.heap.objs.size + 1) :: (us ++ dl)) := .cons rfl (r.append vd)
  have hlen : (Value.ref (s.heap.objs.size + 1) :: us ++ dl).length = ps.length := by
    rw [show (Value.ref (s.heap.objs.size + 1) :: us ++ dl).length = _ from rr.length.symm]
    exact G.len _ _ _ _ hq
  have go := G.run _ X.stack _ _ ⟨Value.ref (s.heap.objs.size + 1) :: us, []⟩ (Value.ref (s.heap.objs.size + 1) :: (us ++ dl)) _ _ Ex (hr.make C us []) (J.env0.make C us []) (b _ (Value.ref (s.heap.objs.size + 1) :: us) J.kIn hlen) rr hq
  refine wpAny_call (make_map (f := f) I.kIn M.makes M.init (beq_iff_eq.mp M.fn) (codeAny_mono go fun res s' z => ?_))
  cases res with
  | error er => exact hx pins _ _ er s' J z
  | ok fl =>
    cases fl with
    | ret u =>
      obtain ⟨v, H', J2, rv, ev, q3⟩ := J.after z
      subst ev
      exact ⟨rv, V.ref (s.heap.objs.size + 1), H', J2, rfl, q3⟩
    | _ => exact z.elim
/-- what a maker's promise over data gives -/
theorem made_imp [Tabl] {C : Addr} {F : Spec} {sg : St} {L : LL} {H : Hp} {S : Store} {T : List (Addr × HO)} {K : KE} {X' : KX} {Q : VK} {vs : List V} {ds : List Dat} {x dx : Addr} (hs : SR H L S T) (p : Ls L vs ds)
    (h : F (.cell S.length :: ds) (S ++ [.ins C [] []]) (fun d S2 => d = .non ∧ ExitTo S K (.cell S.length) S2) (fun e S2 => ExitX S X' e [] S2)) (hq : EOk L T K Q) (hx : XOk W sg L T X') (nx : H x = none) (nd : H dx = none) (ne : dx ≠ x) :
    spOf F (.ref x :: vs) (upd (upd H dx (.own x)) x (.ins C dx [])) (fun v H2 => v = .non ∧ Q (.ref x) H2) (WE W sg) := by
  have s1 : SR (upd H dx (.own x)) L S T := hs.beside nd
  have nx1 : upd H dx (.own x) x = none := by rw [upd_ne (Ne.symm ne)]; exact nx
  have s2 : SR (upd (upd H dx (.own x)) x (.ins C dx [])) (Ladd L (.ref x) (.cell S.length)) (S ++ [.ins C [] []]) T := s1.cell (d := .ins C [] []) (vs := []) nx1 ⟨⟨dx, rfl⟩, rfl⟩ True.intro
  refine ⟨.cell S.length :: ds, _, _, T, _, _, ⟨Ladd.here, p.le Ladd.le⟩, s2, h, fun v d L3 H3 S3 l3 p3 s3 ⟨hd, S4, d', o, r, k⟩ => ?_, fun e de L3 H3 S3 l3 p3 s3 ⟨S4, ys, o, r, k⟩ => ?_⟩
  · subst hd
    obtain ⟨L4, l4, p4, s4⟩ := Out.go o r hs (Ladd.le.trans l3) s3 (l3 _ _ Ladd.here)
    refine ⟨?_, hq _ _ L4 H3 S4 l4 p4 s4 k⟩
    obtain ⟨rho, z⟩ := s3
    have z := z.rd _ _ p3
    simp only [RD] at z
    exact z
  · obtain ⟨L4, l4, p4, s4⟩ := Out.go o r hs (Ladd.le.trans l3) s3 p3
    exact hx ⟨e.C, e.ns, ys⟩ de L4 H3 S4 l4 p4 s4 k
theorem de_make [Tabl] {C : Addr} {F : Spec} (c : MakeV X.prog X.w X.K X.mg X.base k ps dd dvs C F) (hr : Room j X.A) (hj : k + 1 ≤ j) (hm : X.mg x = some (.ref C)) (tk : Takes X W) (ha : DA X W (e :: es) t u) (hg : Gl X x := by rfl)
    (hdb : (x == ("__debug__" : Str)) = false := by decide) (he : starEach (e :: es) X.env = (false, eval e X.env) :: starEach es X.env := by rfl) (hpl : (backTo pos (starEach es X.env)).any (·.1) = false := by rfl) :
    DE X W (.Call (.Name x p) (e :: es) [] pos) (tMakeD C F dvs (WE W) t) (uMake C F dd u) := by
  obtain ⟨f, fd, dl, M, G, b, vd, fl⟩ := c
  refine ⟨⟨fun pins s sg H Q I h => ?_⟩, fun {sg dl' L H S T K X' Q} he' hs h hq hx => ?_⟩
  · refine wpAny_Call_Name_kw (ld_glob I hg hm ?_ hdb)
    refine PySem.W.callWith_K (h₀ := X.base) I.ok.mod.kin M.kp ?_ he hpl
    exact thn (ha.run.run pos pins s sg H _ I h) fun us s1 ⟨vs, H1, I1, r, q⟩ => ⟨I1.kIn, run_mkD M G (hr.mono hj) b vd (passAt tk sg) I1 r q⟩
  · refine ha.imp he' hs h (fun vs ds L1 H1 S1 l1 p1 s1 h1 x dx nx nd ne => ?_) hx
    obtain ⟨L2, l2, p2, s2⟩ := s1.flats fl
    exact made_imp s2 ((p1.le l2).append p2) h1 (hq.le (l1.trans l2)) (hx.le (l1.trans l2)) nx nd ne
end
end DL
/-! DL13: enumerate; min; what is never reached; making with keywords. -/
namespace DL
open PySem L2
/-! ### what is never reached -/
def uDead : US := fun _ _ _ => False
theorem ds_dead [Tabl] {X : Cx} {W : WX} {s : Stmt} : DS X W s (fun _ _ _ => False) uDead := ⟨⟨fun _ _ _ _ _ _ h => h.elim⟩, fun _ _ h _ => h.elim⟩
def uDeadE : UE := fun _ _ _ _ => False
theorem de_dead [Tabl] {X : Cx} {W : WX} {e : Expr} : DE X W e (fun _ _ _ => False) uDeadE := ⟨⟨fun _ _ _ _ _ _ h => h.elim⟩, fun _ _ h _ _ => h.elim⟩
/-! ### min -/
def gMin2 : GL := fun ds S K => match ds with
  | [.int i, .int j] => K (.int (if j < i then j else i)) S
  | _ => False
def gMax2 : GL := fun ds S K => match ds with
  | [.int i, .int j] => K (.int (if j > i then j else i)) S
  | _ => False
section
variable {X : Cx} {S : Store} {K : KE} {i j : Int}
theorem dcb_min2 [Tabl] (hc : X.calm = true) : DCb X (.builtin "min") (fun xs H Q => ∃ i j, xs = [.int i, .int j] ∧ Q (.int (if j < i then j else i)) H) gMin2 := ⟨call_min2 hc, fun {xs ds L H S T K Q} hs p h hq => by
  match ds, p, h with
  | [.int i, .int j], p, h =>
    obtain ⟨v, w, rfl, pv, pw⟩ := p.two
    rw [hs.vint pv, hs.vint pw]
    exact ⟨i, j, rfl, hq.flat hs (d := .int _) rfl h⟩⟩
theorem dcb_max2 [Tabl] (hc : X.calm = true) : DCb X (.builtin "max") (fun xs H Q => ∃ i j, xs = [.int i, .int j] ∧ Q (.int (if j > i then j else i)) H) gMax2 := ⟨call_max2 hc, fun {xs ds L H S T K Q} hs p h hq => by
  match ds, p, h with
  | [.int i, .int j], p, h =>
    obtain ⟨v, w, rfl, pv, pw⟩ := p.two
    rw [hs.vint pv, hs.vint pw]
    exact ⟨i, j, rfl, hq.flat hs (d := .int _) rfl h⟩⟩
theorem x_min2 (k : K (.int (if j < i then j else i)) S) : gMin2 [.int i, .int j] S K := k
theorem x_max2 (k : K (.int (if j > i then j else i)) S) : gMax2 [.int i, .int j] S K := k
end
/-! ### enumerate -/
def enumD (k : Int) : List Dat → List Dat
  | [] => []
  | x :: xs => .tup [.int k, x] :: enumD (k + 1) xs
theorem enumD_len : ∀ (k : Int) (xs : List Dat), (enumD k xs).length = xs.length
  | _, [] => rfl
  | k, _ :: xs => by simp [enumD, enumD_len (k + 1) xs]
theorem enumD_at : ∀ (k : Int) (xs : List Dat) (i : Nat), (enumD k xs)[i]? = (xs[i]?).map fun x => .tup [.int (k + (i : Int)), x]
  | _, [], i => by simp [enumD]
  | k, x :: xs, 0 => by simp [enumD]
  | k, x :: xs, i + 1 => by
    simp only [enumD, List.getElem?_cons_succ, enumD_at (k + 1) xs i]
    congr 1
    funext z
    have : k + 1 + (i : Int) = k + ((i + 1 : Nat) : Int) := by push_cast; omega
    rw [this]
def uEn (ua : UA) : UI := fun dl S R X => ua dl S (fun ds S1 => match ds with
  | [a] => ∃ xs, lstD S1 a = some xs ∧ R (enumD 0 xs) (fun S => lstD S a = some xs) S1
  | _ => False) X
section
variable {X : Cx} {W : WX} {e : Expr} {ta : TA} {ua : UA} {p pos tpos : Pos} {elts : List Expr} {kk : Nat}
theorem di_enum [Tabl] (hm : X.mg "enumerate" = none) (ha : DA X W [e] ta ua) (hg : Gl X "enumerate" := by rfl) (hs : starEach [e] X.env = [(false, eval e X.env)] := by rfl) :
    DI X W (.Tuple elts kk tpos) (.Call (.Name "enumerate" p) [e] [] pos) (iEnum X.K ta) (uEn ua) := ⟨pi_enum hg hm ha.run hs, fun {sg dl L H S T R X' Q} he hs h hq hx =>
  ha.imp he hs h (fun vs ds L1 H1 S1 l1 p1 s1 h1 => by
    match ds, p1, h1 with
    | [a], p1, h1 =>
      obtain ⟨xs, ea, h1⟩ := h1
      obtain ⟨v, rfl, pv⟩ := p1.one
      obtain ⟨b, ws, rfl, hb, s2, q⟩ := s1.list pv (lstD_view ea)
      have look : ∀ {H2 L2 S2 T2}, Lle L1 L2 → SR H2 L2 S2 T2 → lstD S2 a = some xs → ∃ us, SqL X.K H2 b us ∧ SR H2 (LaddL L2 us xs) S2 T2 ∧ Ls (LaddL L2 us xs) us xs := fun l2 s2 hP => by
        obtain ⟨b', us, eb, hb', s3, q3⟩ := s2.list (l2 _ _ pv) (lstD_view hP)
        injection eb with eb
        subst eb
        exact ⟨us, SqL.of hb', s3, q3⟩
      refine ⟨b, ws, rfl, SqL.of hb, hq _ _ (fun S => lstD S a = some xs) L1 H1 S1 l1 s1 ⟨fun i H2 L2 S2 T2 l2 s2 hP hi => ?_, fun i H2 L2 S2 T2 x H3 d l2 s2 hP hd hy => ?_, fun i H2 L2 S2 T2 l2 s2 hP hi => ?_⟩ h1⟩
      · obtain ⟨us, h3, _, q3⟩ := look l2 s2 hP
        rw [enumD_len] at hi
        exact ⟨us, us[i]'(by rw [q3.length]; exact hi), h3, List.getElem?_eq_getElem _⟩
      · obtain ⟨us, h3, s3, q3⟩ := look l2 s2 hP
        obtain ⟨A, x1, rfl, hA, rfl, hx1⟩ := hy
        obtain ⟨c, ec, pc⟩ := q3.getV (hx1 us h3)
        rw [enumD_at, ec] at hd
        injection hd with hd
        subst hd
        have s4 := s3.flat (d := .int ((i : Nat) : Int)) (v := .int ((i : Nat) : Int)) rfl
        have e0 : (0 : Int) + (i : Int) = (i : Int) := by omega
        rw [e0]
        exact ⟨Ladd (Ladd (LaddL L2 us xs) _ _) _ _, (LaddL.le.trans Ladd.le).trans Ladd.le, Ladd.here, s4.tup hA ⟨Ladd.here, Ladd.le _ _ pc, True.intro⟩⟩
      · obtain ⟨us, h3, _, q3⟩ := look l2 s2 hP
        refine ⟨us, h3, ?_⟩
        rw [hi, q3.length, enumD_len]
        exact Nat.le_refl _
    | [], _, h1 => exact h1.elim
    | _ :: _ :: _, _, h1 => exact h1.elim) hx⟩
theorem di_enumK [Tabl] (KK : PySem.W.Frag) (hK : X.K = KK) (hm : X.mg "enumerate" = none) (ha : DA X W [e] ta ua) (hg : Gl X "enumerate" := by rfl) (hs : starEach [e] X.env = [(false, eval e X.env)] := by rfl) :
    DI X W (.Tuple elts kk tpos) (.Call (.Name "enumerate" p) [e] [] pos) (iEnum KK ta) (uEn ua) := by subst hK; exact di_enum hm ha hg hs
theorem x_en {dl : Env'} {S : Store} {R : List Dat → (Store → Prop) → Store → Prop} {X : KX} (h : ua dl S (fun ds S1 => match ds with
  | [a] => ∃ xs, lstD S1 a = some xs ∧ R (enumD 0 xs) (fun S => lstD S a = some xs) S1
  | _ => False) X) : uEn ua dl S R X := h
end
/-! ### steps -/
section
variable {dl : Env'} {S : Store} {K : KE} {X : KX} {D : DEnds} {ua uo uv : UE} {u : UA} {Cs : List Addr} {MS : List (Addr × Spec)} {f m : Str} {C : Addr} {F : Spec} {dd : List Dat}
theorem x_fld (h : ua dl S (fun d S1 => ∃ C ns xs x, C ∈ Cs ∧ insD S1 d = some (C, ns, xs) ∧ (ns.zip xs).lookup f = some x ∧ K x S1) X) : uFld Cs f ua dl S K X := h
theorem x_setF (h : uv dl S (fun y S1 => uo dl S1 (fun d S2 => ∃ n C ns xs, d = .cell n ∧ S2[n]? = some (.ins C ns xs) ∧ C ∈ Cs ∧ ns.length < 1000 ∧
  D.nx dl (S2.set n (.ins C (putN f ns) (putX f y ns xs)))) (fun e S2 => D.ex e dl S2)) (fun e S1 => D.ex e dl S1)) : uSetF Cs f uo uv D dl S := h
theorem x_meth (h : uo dl S (fun d S1 => ∃ C ns xs F, insD S1 d = some (C, ns, xs) ∧ m ∉ ns ∧ (C, F) ∈ MS ∧ u dl S1 (fun ds S2 => F (d :: (ds ++ dd)) S2 K X) X) X) : uMeth MS m dd uo u dl S K X := h
theorem x_prop (h : uo dl S (fun d S1 => ∃ C ns xs F, insD S1 d = some (C, ns, xs) ∧ (C, F) ∈ MS ∧ F [d] S1 K fun _ _ => False) X) : uProp MS uo dl S K X := h
theorem x_make (h : u dl S (fun ds S1 => F (.cell S1.length :: (ds ++ dd)) (S1 ++ [.ins C [] []]) (fun d S2 => d = .non ∧ ExitTo S1 K (.cell S1.length) S2) (fun e S2 => ExitX S1 X e [] S2)) X) : uMake C F dd u dl S K X := h
end
/-! ### making with keywords -/
structure DK [Tabl] (X : Cx) (W : WX) (kws : List Keyword) (t : TA) (u : UA) : Prop where
  run : PK X kws t
  imp : ImpA W t u
def tMakeKD [Tabl] (C : Addr) (n m : Nat) (F : Spec) (gV : List V → List V → List V) (E : St → XK) (t tk : TA) : TE := fun sg H Q => t sg H fun vs H1 => tk sg H1 fun zs H2 => vs.length = n ∧ zs.length = m ∧ ∀ x dx, H2 x = none → H2 dx = none → dx ≠ x →
  spOf F (gV (.ref x :: vs) zs) (upd (upd H2 dx (.own x)) x (.ins C dx [])) (fun v H3 => v = .non ∧ Q (.ref x) H3) (E sg)
end DL
/-! DL14: lists of things told by a function; loops by what is done; the store around a bag. -/
namespace DL
open PySem L2
theorem alln {P : Addr → Prop} : ∀ C ∈ ([] : List Addr), P C := fun _ h => nomatch h
theorem allc {α : Type} {P : α → Prop} {a : α} {l : List α} (h : P a) (r : ∀ C ∈ l, P C) : ∀ C ∈ a :: l, P C := fun C m => by
  rcases List.mem_cons.mp m with e | e
  · subst e; exact h
  · exact r C e
theorem allnS {α : Type} {P : α → Prop} : ∀ C ∈ ([] : List α), P C := fun _ h => nomatch h
section
variable {α β : Type} {dl : Env'} {S : Store} {K : KE} {X : KX} {D : DEnds} {ug : UG} {tt : UT} {ue : UE} {P : Store → Prop} {own : List Nat}
/-- a comprehension over xs.map e: f of the items that p takes -/
theorem lc_T (xs : List α) (e : α → Dat) {p : α → Bool} {f : α → Dat} {G : List Dat → Store → Prop} (hP : P S) (hsz : xs.length ≤ sizeLine)
    (hs : ∀ a, a ∈ xs → ∀ (Kt : Dat → Store → Prop) (Kf : Store → Prop), (p a = true → Kt (f a) S) → (p a = false → Kf S) →
      ug (e a) (wipeD dl own) S (fun dl2 S3 => tt dl2 S3 (fun b S4 => if b = true then ue dl2 S4 Kt XF0 else Kf S4) XF0) XF0)
    (k : G ((xs.filter p).map f) S) : ∃ I : Nat → List Dat → Store → Prop, I 0 [] S ∧
  (∀ (j : Nat) d acc S2, (xs.map e)[j]? = some d → I j acc S2 → P S2 ∧ acc.length < sizeLine ∧ ug d (wipeD dl own) S2 (fun dl2 S3 => tt dl2 S3 (fun b S4 => if b = true then ue dl2 S4 (fun y S5 => I (j + 1) (acc ++ [y]) S5) XF0 else I (j + 1) acc S4) XF0) XF0) ∧
  ∀ acc S2, I (xs.map e).length acc S2 → P S2 ∧ G acc S2 := by
  refine ⟨fun j acc S2 => S2 = S ∧ acc = ((xs.take j).filter p).map f, ⟨rfl, by simp⟩, fun j d acc S2 hj ⟨e1, e2⟩ => ?_, fun acc S2 ⟨e1, e2⟩ => ?_⟩
  · subst e1
    rw [List.getElem?_map, Option.map_eq_some_iff] at hj
    obtain ⟨a, ha, rfl⟩ := hj
    have hlt := (List.getElem?_eq_some_iff.mp ha).1
    have ht : xs.take (j + 1) = xs.take j ++ [a] := by rw [List.take_add_one, ha]; rfl
    refine ⟨hP, ?_, ?_⟩
    · have h1 : acc.length ≤ j := by
        rw [e2, List.length_map]
        exact Nat.le_trans (List.length_filter_le _ _) (by rw [List.length_take]; omega)
      omega
    · refine hs a (List.mem_of_getElem? ha) _ _ (fun hp => ⟨rfl, ?_⟩) (fun hp => ⟨rfl, ?_⟩)
      · rw [ht, List.filter_append, List.map_append, e2]; simp [hp]
      · rw [ht, List.filter_append, List.map_append, e2]; simp [hp]
  · rw [List.length_map, List.take_of_length_le (Nat.le_refl _)] at e2
    subst e1; subst e2
    exact ⟨hP, k⟩
theorem lc_M (xs : List α) (e : α → Dat) {f : α → Dat} {G : List Dat → Store → Prop} (hP : P S) (hsz : xs.length ≤ sizeLine)
    (hs : ∀ a, a ∈ xs → ∀ (Kt : Dat → Store → Prop) (Kf : Store → Prop), Kt (f a) S →
      ug (e a) (wipeD dl own) S (fun dl2 S3 => tt dl2 S3 (fun b S4 => if b = true then ue dl2 S4 Kt XF0 else Kf S4) XF0) XF0)
    (k : G (xs.map f) S) : ∃ I : Nat → List Dat → Store → Prop, I 0 [] S ∧
  (∀ (j : Nat) d acc S2, (xs.map e)[j]? = some d → I j acc S2 → P S2 ∧ acc.length < sizeLine ∧ ug d (wipeD dl own) S2 (fun dl2 S3 => tt dl2 S3 (fun b S4 => if b = true then ue dl2 S4 (fun y S5 => I (j + 1) (acc ++ [y]) S5) XF0 else I (j + 1) acc S4) XF0) XF0) ∧
  ∀ acc S2, I (xs.map e).length acc S2 → P S2 ∧ G acc S2 :=
  lc_T xs e (p := fun _ => true) hP hsz (fun a ha Kt Kf h1 _ => hs a ha Kt Kf (h1 rfl)) (by rw [List.filter_eq_self.mpr fun _ _ => rfl]; exact k)
/-- a comprehension whose turns change the store -/
theorem lc_S (xs : List α) (e : α → Dat) {G : List Dat → Store → Prop} (I : List α → List Dat → Store → Prop) (hsz : xs.length ≤ sizeLine) (h0 : I [] [] S) (hP : ∀ pre acc S2, I pre acc S2 → P S2 ∧ acc.length ≤ pre.length)
    (hs : ∀ pre a rest acc S2, xs = pre ++ a :: rest → I pre acc S2 →
      ug (e a) (wipeD dl own) S2 (fun dl2 S3 => tt dl2 S3 (fun b S4 => if b = true then ue dl2 S4 (fun y S5 => I (pre ++ [a]) (acc ++ [y]) S5) XF0 else I (pre ++ [a]) acc S4) XF0) XF0)
    (k : ∀ acc S2, I xs acc S2 → G acc S2) : ∃ I : Nat → List Dat → Store → Prop, I 0 [] S ∧
  (∀ (j : Nat) d acc S2, (xs.map e)[j]? = some d → I j acc S2 → P S2 ∧ acc.length < sizeLine ∧ ug d (wipeD dl own) S2 (fun dl2 S3 => tt dl2 S3 (fun b S4 => if b = true then ue dl2 S4 (fun y S5 => I (j + 1) (acc ++ [y]) S5) XF0 else I (j + 1) acc S4) XF0) XF0) ∧
  ∀ acc S2, I (xs.map e).length acc S2 → P S2 ∧ G acc S2 := by
  refine ⟨fun j acc S2 => I (xs.take j) acc S2, by simpa using h0, fun j d acc S2 hj hI => ?_, fun acc S2 hI => ?_⟩
  · rw [List.getElem?_map, Option.map_eq_some_iff] at hj
    obtain ⟨a, ha, rfl⟩ := hj
    have hlt := (List.getElem?_eq_some_iff.mp ha).1
    have ht : xs.take (j + 1) = xs.take j ++ [a] := by rw [List.take_add_one, ha]; rfl
    have hx : xs = xs.take j ++ a :: xs.drop (j + 1) := by
      rw [← (List.getElem?_eq_some_iff.mp ha).2, ← List.drop_eq_getElem_cons, List.take_append_drop]
    refine ⟨(hP _ _ _ hI).1, ?_, ?_⟩
    · have := (hP _ _ _ hI).2
      rw [List.length_take] at this
      omega
    · simp only [ht]
      exact hs _ _ _ _ _ hx hI
  · rw [List.length_map, List.take_of_length_le (Nat.le_refl _)] at hI
    exact ⟨(hP _ _ _ hI).1, k _ _ hI⟩
/-- a loop over xs.map e, by what is done -/
theorem for_T (xs : List α) (e : α → Dat) {b : US} {N : Nat} {nx bk : Env' → Store → Prop} {rt : Dat → Store → Prop} {ex eg : Exc → Env' → Store → Prop} (I : List α → Env' → Store → Prop) (h0 : I [] dl S) (hP : ∀ pre dl1 S2, I pre dl1 S2 → P S2)
    (hs : ∀ pre a rest dl1 S2, xs = pre ++ a :: rest → I pre dl1 S2 → ug (e a) dl1 S2 (fun dl2 S3 => b { nx := GcTo N (I (pre ++ [a])), rt := rt, bk := bk, ct := GcTo N (I (pre ++ [a])), ex := ex } dl2 S3) (fun er S3 => eg er dl1 S3))
    (k : ∀ dl1 S2, I xs dl1 S2 → nx dl1 S2) : ∃ I : Nat → Env' → Store → Prop, I 0 dl S ∧
  (∀ (i : Nat) d dl1 S2, (xs.map e)[i]? = some d → I i dl1 S2 → P S2 ∧ ug d dl1 S2 (fun dl2 S3 => b { nx := GcTo N (I (i + 1)), rt := rt, bk := bk, ct := GcTo N (I (i + 1)), ex := ex } dl2 S3) (fun e S3 => eg e dl1 S3)) ∧
  ∀ dl1 S2, I (xs.map e).length dl1 S2 → P S2 ∧ nx dl1 S2 := by
  refine ⟨fun j dl1 S2 => I (xs.take j) dl1 S2, by simpa using h0, fun j d dl1 S2 hj hI => ?_, fun dl1 S2 hI => ?_⟩
  · rw [List.getElem?_map, Option.map_eq_some_iff] at hj
    obtain ⟨a, ha, rfl⟩ := hj
    have ht : xs.take (j + 1) = xs.take j ++ [a] := by rw [List.take_add_one, ha]; rfl
    have hx : xs = xs.take j ++ a :: xs.drop (j + 1) := by
      rw [← (List.getElem?_eq_some_iff.mp ha).2, ← List.drop_eq_getElem_cons, List.take_append_drop]
    refine ⟨hP _ _ _ hI, ?_⟩
    simp only [ht]
    exact hs _ _ _ _ _ hx hI
  · rw [List.length_map, List.take_of_length_le (Nat.le_refl _)] at hI
    exact ⟨hP _ _ _ hI, k _ _ hI⟩
theorem gc_stay {N : Nat} {J : Env' → Store → Prop} (h : J dl S) : GcTo N J dl S := .inl h
end
theorem pairs_map {α β : Type} (xs : List α) (ys : List β) (e1 : α → Dat) (e2 : β → Dat) : pairs (xs.map e1) (ys.map e2) = (xs.zip ys).map fun p => .tup [e1 p.1, e2 p.2] := by
  unfold pairs
  induction xs generalizing ys with
  | nil => simp
  | cons x xs ih =>
    cases ys with
    | nil => simp
    | cons y ys => simp [ih]
theorem enumD_map {α : Type} (e : α → Dat) : ∀ (xs : List α) (k : Nat), enumD (k : Int) (xs.map e) = (xs.zipIdx k).map fun p => .tup [.int ((p.2 : Nat) : Int), e p.1]
  | [], _ => rfl
  | x :: xs, k => by
    simp only [List.map_cons, enumD, List.zipIdx_cons]
    rw [show ((k : Int) + 1) = ((k + 1 : Nat) : Int) by push_cast; rfl, enumD_map e xs (k + 1)]
theorem seqs_map {α : Type} (e : α → Dat) (xs : List α) (i : Nat) : (xs.map e)[i]? = (xs[i]?).map e := by simp
theorem atI_n {α : Type} (xs : List α) (i : Nat) : HT.sIx xs.length 0 (some (i : Int)) = min i xs.length := HT.sIx_nat ..
theorem cutD_map {α : Type} (e : α → Dat) (xs : List α) (lo hi : Option Int) : cutD (xs.map e) lo hi = (((xs.drop (HT.sIx xs.length 0 lo)).take (HT.sIx xs.length xs.length hi - HT.sIx xs.length 0 lo))).map e := by
  unfold cutD
  rw [List.length_map, List.map_take, List.map_drop]
theorem cut_from {α : Type} (xs : List α) (i : Nat) : (xs.drop (HT.sIx xs.length 0 (some (i : Int)))).take (HT.sIx xs.length xs.length none - HT.sIx xs.length 0 (some (i : Int))) = xs.drop i := by
  rw [HT.sIx_none, HT.sIx_nat]
  by_cases h : i ≤ xs.length
  · rw [Nat.min_eq_left h, List.take_of_length_le (by rw [List.length_drop]; omega)]
  · rw [Nat.min_eq_right (by omega), List.drop_of_length_le (Nat.le_refl _), List.drop_of_length_le (by omega)]; simp
theorem cut_to {α : Type} (xs : List α) (i : Nat) : (xs.drop (HT.sIx xs.length 0 none)).take (HT.sIx xs.length xs.length (some (i : Int)) - HT.sIx xs.length 0 none) = xs.take i := by
  rw [HT.sIx_none, HT.sIx_nat]
  simp only [List.drop_zero, Nat.sub_zero]
  by_cases h : i ≤ xs.length
  · rw [Nat.min_eq_left h]
  · rw [Nat.min_eq_right (by omega), List.take_of_length_le (Nat.le_refl _), List.take_of_length_le (by omega)]
section
variable {S : Store} {K : KE} {a b c d : Dat} {r xs : List Dat}
theorem x_ixt0 (k : K a S) : gIx (.tup (a :: r)) (.int 0) S K := x_ixL (xs := a :: r) rfl (by
  unfold atI ixN; rw [if_pos (by decide), if_pos (by simp only [List.length_cons]; omega)]; rfl) k
theorem x_ixt1 (k : K b S) : gIx (.tup (a :: b :: r)) (.int 1) S K := x_ixL (xs := a :: b :: r) rfl (by
  unfold atI ixN; rw [if_pos (by decide), if_pos (by simp only [List.length_cons]; omega)]; rfl) k
theorem x_ixt2 (k : K c S) : gIx (.tup (a :: b :: c :: r)) (.int 2) S K := x_ixL (xs := a :: b :: c :: r) rfl (by
  unfold atI ixN; rw [if_pos (by decide), if_pos (by simp only [List.length_cons]; omega)]; rfl) k
theorem x_ixt3 (k : K d S) : gIx (.tup (a :: b :: c :: d :: r)) (.int 3) S K := x_ixL (xs := a :: b :: c :: d :: r) rfl (by
  unfold atI ixN; rw [if_pos (by decide), if_pos (by simp only [List.length_cons]; omega)]; rfl) k
theorem atI_nat' {α : Type} {xs : List α} {n : Nat} {x : α} (h : xs[n]? = some x) : atI xs (n : Int) = some x := by
  have := (List.getElem?_eq_some_iff.mp h).1
  unfold atI ixN
  rw [if_pos (by omega), if_pos (by omega)]
  simpa using h
theorem x_ixn {n : Nat} {x y : Dat} (e : seqD S x = some xs) (h : xs[n]? = some y) (k : K y S) : gIx x (.int (n : Int)) S K := x_ixL e (atI_nat' h) k
theorem x_lenT (k : K (.int xs.length) S) : gLen [.tup xs] S K := x_lenL rfl k
end
def anyStr (a : Str) : List Dat → Bool
  | .str b :: r => decide (b = a) || anyStr a r
  | _ => false
def allStr : List Dat → Bool
  | [] => true
  | .str _ :: r => allStr r
  | _ => false
theorem strs_of : ∀ {xs : List Dat}, allStr xs = true → ∃ ys : List Str, xs = ys.map Dat.str
  | [], _ => ⟨[], rfl⟩
  | .str b :: r, h => by
    obtain ⟨ys, e⟩ := strs_of (xs := r) h
    exact ⟨b :: ys, by rw [e]; rfl⟩
  | .non :: _, h => by cases h
  | .bl _ :: _, h => by cases h
  | .int _ :: _, h => by cases h
  | .lst _ :: _, h => by cases h
  | .tup _ :: _, h => by cases h
  | .dct _ _ :: _, h => by cases h
  | .dtt _ _ :: _, h => by cases h
  | .sq _ _ :: _, h => by cases h
  | .ins _ _ _ :: _, h => by cases h
  | .xd _ _ :: _, h => by cases h
  | .cell _ :: _, h => by cases h
  | .raw _ :: _, h => by cases h
  | .fn _ _ :: _, h => by cases h
  | .exv _ _ _ _ :: _, h => by cases h
theorem anyStr_in (a : Str) (ys : List Str) : inF (.str a) (ys.map Dat.str) = some (anyStr a (ys.map Dat.str)) := by
  unfold inF
  rw [mapM_strs]
  show some (inV _ _) = _
  congr 1
  unfold inV
  rw [List.any_map]
  induction ys with
  | nil => rfl
  | cons b r ih => rw [List.any_cons, ih]; rfl
theorem x_inTs {S : Store} {K : KE} {f : Bool → Bool} {a : Str} {xs : List Dat} (h : allStr xs = true) (k : K (.bl (f (anyStr a xs))) S) : gIn f (.str a) (.tup xs) S K := by
  obtain ⟨ys, rfl⟩ := strs_of h
  exact ⟨_, _, rfl, anyStr_in a ys, k⟩
theorem x_inTi {S : Store} {K : KE} {a : Str} {xs : List Dat} (h : allStr xs = true) (k : K (.bl (anyStr a xs)) S) : gIn id (.str a) (.tup xs) S K := x_inTs h k
theorem x_inTn {S : Store} {K : KE} {a : Str} {xs : List Dat} (h : allStr xs = true) (k : K (.bl (!(anyStr a xs))) S) : gIn (!·) (.str a) (.tup xs) S K := x_inTs h k
section
variable {S : Store} {K : KE} {xs ys : List Dat}
theorem x_addT (h : xs.length + ys.length ≤ sizeLine) (k : K (.tup (xs ++ ys)) S) : gAdd (.tup xs) (.tup ys) S K := ⟨h, k⟩
theorem x_slT {lo hi : Option Int} (k : K (.tup (cutD xs lo hi)) S) : gSl (.tup xs) lo hi S K := k
end
end DL
/-! DX1: an own error's __init__ that begins with super().__init__(..): its promise. -/
namespace DX
open PySem PySem.Spec PyProof.Rows L2
/-- what the names of such a def are -/
structure SupScope (N ps : List Str) (sc : Scope) : Prop where
  kind : sc.kind = .function
  co : sc.isCoroutine = false
  gen : sc.isGenerator = false
  nd : N.Nodup
  pre : N.take ps.length = ps
  par : ∀ x ∈ ps, sc.names.lookup x = some .local
  nocell : ∀ y ∈ sc.names, y.2 ≠ .cell
  onefree : ∀ y, sc.names.lookup y = some .free → y = ("__class__" : Str)
  cls : sc.names.lookup ("__class__" : Str) = some .free
  sup : sc.names.lookup ("super" : Str) = some .globalImplicit
/-- the context of its body -/
def supCx (CX : CXT) (P : Program) (w : World) (K : PySem.W.Frag) (mg : Str → Option Value) (base : Heap) (N : List Str) (qual : Str) (scope : Scope) (f : Addr) (cd : Value) (cc : Addr) (A : Around) (outer : List Env) (s : Shared) (H : Hp) (E : XK) : Cx where
  prog := P
  w := w
  K := K
  mg := mg
  base := base
  A := A.deeper (PySem.W.ksEnv qual scope s.heap.objs.size f cd cc)
  N := N
  s_0 := s
  H_0 := H
  env := PySem.W.ksEnv qual scope s.heap.objs.size f cd cc
  outer := outer
  stack := PySem.W.ksEnv qual scope s.heap.objs.size f cd cc :: outer
  ex := []
  fn := fun _ => false
  calm := true
  pn := []
  xe := fun e s' => wpAny (model P w) (A.deeper (PySem.W.ksEnv qual scope s.heap.objs.size f cd cc)) (leaving (PySem.W.ksEnv qual scope s.heap.objs.size f cd cc) e) (fun _ s2 => CX outer H s E e s2) (fun e2 s2 => CX outer H s E e2 s2) s'
theorem zip_rev {α : Type} : ∀ {ps : List Str} {us : List α} {i : Nat} {x : Str} {u : α}, ps.Nodup → ps[i]? = some x → us[i]? = some u → (ps.zip us).reverse.lookup x = some u := fun {ps us i x u} nd hx hu => by
  have key : ∀ {ps : List Str} {us : List α} {i : Nat}, ps.Nodup → ps[i]? = some x → us[i]? = some u → ∃ pre post, ps.zip us = pre ++ (x, u) :: post ∧ ∀ q ∈ post, q.1 ≠ x := by
    intro ps
    induction ps with
    | nil => intro us i _ h; simp at h
    | cons p ps ih =>
      intro us i nd h1 h2
      cases us with
      | nil => simp at h2
      | cons v us =>
        have nd2 := List.nodup_cons.mp nd
        cases i with
        | zero =>
          simp at h1 h2
          subst h1; subst h2
          refine ⟨[], ps.zip us, rfl, fun q hq z => nd2.1 ?_⟩
          rw [← z]
          exact (List.of_mem_zip (show (q.1, q.2) ∈ ps.zip us from hq)).1
        | succ i =>
          obtain ⟨a, b, e, f⟩ := ih (us := us) (i := i) nd2.2 (by simpa using h1) (by simpa using h2)
          exact ⟨(p, v) :: a, b, by rw [List.zip_cons_cons, e]; rfl, f⟩
  obtain ⟨a, b, e, f⟩ := key nd hx hu
  rw [e, List.reverse_append, List.reverse_cons, List.append_assoc]
  have skip : ∀ (l r : List (Str × α)), (∀ q ∈ l, q.1 ≠ x) → (l ++ r).lookup x = r.lookup x := fun l r => by
    induction l with
    | nil => intro _; rfl
    | cons q l ih =>
      intro h
      rw [List.cons_append, List.lookup_cons]
      have : (x == q.1) = false := by simpa using (h q List.mem_cons_self).symm
      rw [this]
      exact ih fun z hz => h z (List.mem_cons_of_mem _ hz)
  rw [skip b.reverse _ fun q hq => f q (List.mem_reverse.mp hq)]
  simp [List.lookup]
section
variable {CX : CXT} {P : Program} {w : World} {K : PySem.W.Frag} {mg : Str → Option Value} {base : Heap} {N ps : List Str} {qual : Str} {scope : Scope} {f cc D : Addr} {cd : Value} {A : Around} {outer : List Env} {s : Shared} {H : Hp} {E : XK}
theorem sup_start {us : List Value} {vs : List V} {h1 : Heap} {tk : Nat} (S : SupScope N ps scope) (hd : A.handled = none) (e0 : Env0 P w K mg base A outer s H) (hl : vs.length = ps.length) (r : Vals vs us)
    (cell : ∃ cl cld csl, K.lookup cc = some ⟨cl, cld, .cell (some (.ref D)), csl⟩) (hns : h1.Ns s.heap.objs.size fun x => (ps.zip us).reverse.lookup x) (kp : ∀ b o, s.heap.get? b = some o → h1.get? b = some o) :
    Inv (supCx CX P w K mg base N qual scope f cd cc A outer s H E) [] (L2.start N vs) H { s with heap := h1, toks := tk } := by
  have hpl : ps.length ≤ N.length := by
    have := congrArg List.length S.pre
    rw [List.length_take] at this
    omega
  obtain ⟨cl, cld, csl, hc⟩ := cell
  have KX : K.In s.heap := e0.mod.kin.keeps fun b o e => (e0.bs b o e).1
  have hcc := KX _ _ hc
  have one : ∀ {y : Str} {c : Addr}, ([(("__class__" : Str), cc)] : List (Str × Addr)).lookup y = some c → y = ("__class__" : Str) ∧ c = cc := fun {y c} h => by
    rw [List.lookup_cons] at h
    cases z : (y == ("__class__" : Str)) with
    | true => rw [z] at h; exact ⟨by simpa using z, (Option.some.inj h).symm⟩
    | false => rw [z] at h; simp at h
  have self : ([(("__class__" : Str), cc)] : List (Str × Addr)).lookup ("__class__" : Str) = some cc := by
    rw [List.lookup_cons]; simp
  have nob : ∀ b : Addr, b ∉ ([] : List Addr) := fun b z => List.not_mem_nil z
  have ok : (supCx CX P w K mg base N qual scope f cd cc A outer s H E).Ok := {
    mod := e0.mod
    kind := S.kind
    glob := rfl
    blt := rfl
    above := Nat.le_refl _
    inj := fun x y c h1 h2 => (one h1).1.trans (one h2).1.symm
    has := fun x hx => by
      have hx : scope.names.lookup x = some .cell ∨ scope.names.lookup x = some .free := hx
      rcases hx with hx | hx
      · exact absurd rfl (S.nocell _ (PySem.mem_of_lookup hx))
      · exact ⟨cc, by rw [S.onefree x hx]; exact self⟩
    cab := fun x c h => Bool.noConfusion h
    hd := fun _ => hd
    frames := Around.frames_deeper e0.frames
    stk := .inr ⟨rfl, rfl⟩
    exf := fun b z => absurd z (nob b)
    bs := e0.bs
    bsz := e0.bsz
    noex := fun b _ _ => nob b
    exfs := fun b z => absurd z (nob b)
    funs := e0.funs
    frf := e0.frf }
  refine ⟨ok, rfl, e0.bare, Un.kept kp, ⟨_, hns, fun i y v q1 q2 _ => ?_⟩, fun y c h => ⟨some (.ref D), ?_⟩, e0.hok.fresh (Nat.le_refl _), fun y c h => ?_, fun p hp => absurd (show p ∈ ([] : List (Addr × Obj)) from hp) (by simp), e0.hok.kept kp, ?_⟩
  · have hi : i < vs.length := by
      unfold L2.start at q2
      by_cases hi : i < vs.length
      · exact hi
      · rw [List.getElem?_append_right (by simpa using hi), List.getElem?_replicate] at q2
        split at q2 <;> cases q2
    have hv : vs[i]? = some v := by
      unfold L2.start at q2
      rw [List.getElem?_append_left (by simpa using hi), List.getElem?_map] at q2
      cases e : vs[i]? with
      | none => rw [e] at q2; cases q2
      | some a => rw [e] at q2; cases q2; rfl
    obtain ⟨u, hu, rv⟩ := r.get hv
    have hp : ps[i]? = some y := by
      rw [← S.pre, List.getElem?_take_of_lt (by omega)]; exact q1
    have ndP : ps.Nodup := by rw [← S.pre]; exact S.nd.sublist (List.take_sublist _ _)
    exact ⟨u, rv, .inl ⟨S.par y (List.mem_of_getElem? hp), zip_rev ndP hp hu⟩⟩
  · obtain ⟨_, rfl⟩ := one h
    exact ⟨_, kp _ _ hcc, rfl⟩
  · obtain ⟨_, rfl⟩ := one h
    exact (e0.bs _ _ (e0.mod.kin _ _ hc)).2
  · unfold L2.start
    rw [List.length_append, List.length_map, List.length_replicate]
    show vs.length + (N.length - vs.length) = N.length
    omega
end
end DX
namespace DX
open PySem PySem.Spec PyProof.Rows L2
/-- a pin more -/
theorem pin_add {X : Cx} {pins : List (Addr × Obj)} {sg : L2.St} {H : Hp} {s : Shared} {u : Addr} {o : Obj} (I : Inv X pins sg H s) (h1 : s.heap.get? u = some o) (h2 : H u = none) (h3 : u ≠ X.env.locals) (h4 : u ∉ X.fs) (h5 : ∀ v, o.data ≠ .cell v) : Inv X ((u, o) :: pins) sg H s :=
  ⟨I.ok, I.os, I.bare, I.base, I.loc, I.cell, I.free, I.freeC, fun p hp => by
    rcases List.mem_append.mp hp with q | q
    · exact I.pin p (List.mem_append_left _ q)
    · rcases List.mem_cons.mp q with e | q
      · subst e; exact ⟨h1, h2, h3, h4, h5⟩
      · exact I.pin p (List.mem_append_right _ q), I.hok, I.len⟩
theorem pin_less {X : Cx} {pins : List (Addr × Obj)} {p : Addr × Obj} {sg : L2.St} {H : Hp} {s : Shared} (I : Inv X (p :: pins) sg H s) : Inv X pins sg H s :=
  ⟨I.ok, I.os, I.bare, I.base, I.loc, I.cell, I.free, I.freeC, fun q hq => I.pin q (by
    rcases List.mem_append.mp hq with z | z
    · exact List.mem_append_left _ z
    · exact List.mem_append_right _ (List.mem_cons_of_mem _ z)), I.hok, I.len⟩
/-- the bound built-in __init__ runs upon an error that is being made -/
theorem bound_init {X : Cx} {pins : List (Addr × Obj)} {sg : L2.St} {H : Hp} {s : Shared} {u a C : Addr} {us : List Value} {Q : Value → Shared → Prop} {E : Value → Shared → Prop} {A : Around} (T : OexC X.K C) (I : Inv X pins sg H s) (hu : s.heap.get? u = some (PySem.W.kxs_mw "ValueError.__init__" a))
    (ea : H a = some (exo a C none)) (hl : us.length ≤ sizeLine) (h : ∀ s', Inv X pins sg H s' → Q .none s') : wpAny (model X.prog X.w) A (call (.ref u) us) Q E s := by
  obtain ⟨nm, q, N, bs, bm, sn, sub, ab, col, dd, k0, k1, k2, k3, k5, hC, hbm⟩ := T.cls
  obtain ⟨t1, ho⟩ := exo_at I.hok ea
  obtain ⟨hp, g, d, t, os⟩ := s
  have HC := I.kIn _ _ hC
  refine wpAny_call (codeAny_of_tree ?_)
  show wpAny _ A.in1 (callAny (.ref u) ⟨us, []⟩) _ _ _
  simp only [callAny]
  refine wpAny_bind (wpAny_load hu ?_)
  simp only [PySem.W.kxs_mw, show (Value.type "method-wrapper" == Value.type "method" || Value.type "method-wrapper" == Value.type "builtin_function_or_method" || Value.type "method-wrapper" == Value.type "method-wrapper") = true by decide, if_true]
  refine PySem.W.KFB.if_so (by decide) ?_
  refine wpAny_bind (PySem.W.check_bound_init F.excBase_ValueError.toExcCallFacts HC ho rfl ?_)
  refine wpAny_bind (wpAny_pure (wpAny_pure ?_))
  refine ⟨plainId_quiet F.excBase_ValueError.init.plain _, codeAny_builtin F.excBase_ValueError.initEntry ?_⟩
  refine PySem.W.exc_init_tree (cls := .ref C) (t0 := t1) (dv := none) (c2 := .none) (c3 := .none) (b4 := .bool false) ho hl fun h' k e' _ => ?_
  have J := I.write (t' := t) (x := a) (e := a) (o := exo a C none) (by rw [ea]; exact True.intro) (.inl rfl) k ⟨_, e'⟩ (exo_ok e')
  have eu : upd H a (exo a C none) = H := by
    funext b
    by_cases hb : b = a
    · rw [hb, upd_same, ea]
    · rw [upd_ne hb]
  rw [eu] at J
  exact h _ J
end DX
namespace DX
open PySem PySem.Spec PyProof.Rows L2
/-- what the written part says of a class C whose __init__ is the def at f (its cell __class__ at cc, its code at cda) -/
structure SupK (P : Program) (K : PySem.W.Frag) (C f cc cda : Addr) (name qual : Str) (params : Arguments) (body : List Stmt) (scope : Scope) (x0 : Str) (fd : FuncData) : Prop where
  fn : ∃ oc od osl dV kV doc pm an ct, fd = PySem.W.ksFn name qual params body scope dV kV doc pm an (.ref cda) ct cc ∧ K.lookup f = some ⟨oc, od, .func fd, osl⟩
  code : PySem.W.codeIn K (.ref cda) qual = true
  file : ∃ c d vs sl fl tf, K.lookup cda = some ⟨c, d, .fields vs, sl⟩ ∧ vs[2]? = some (.str fl tf) ∧ ((P.main.file : Str) == fl) = true
  cell : ∃ cl cld csl, K.lookup cc = some ⟨cl, cld, .cell (some (.ref C)), csl⟩
  oex : OexC K C
  nxt : PySem.W.ks_superIn K C C "__init__" = some (some (.builtin "ValueError.__init__"))
  sub : PySem.W.mroIn K C (.ref C) = some true
  bas : PySem.W.subIn K (.ref C) (.type "ValueError") = some true
  opq : PySem.W.nsIn K PySem.cStatics "thirdparty.any" = some none
  par : ∃ ar, (params.posonlyargs ++ params.args).head? = some ar ∧ ar.arg = x0
  top : (P.main.scope.names.lookup ("super" : Str)).isSome = false
section
variable {P : Program} {w : World} {K : PySem.W.Frag} {mg : Str → Option Value} {base : Heap} {N ps : List Str} {name qual x0 : Str} {params : Arguments} {rest : List Stmt} {scope : Scope} {f cc cda C : Addr} {fd : FuncData} {CX : CXT} {k : Nat} {sp : Sp} {e : Expr} {es : List Expr} {p0 p1 p2 p3 p4 : Pos}
theorem fn_sup (T : SupK P K C f cc cda name qual params (.Expr (.Call (.Attribute (.Call (.Name "super" p0) [] [] p1) "__init__" p2) (e :: es) [] p3) p4 :: rest) scope x0 fd) (S : SupScope N ps scope) (hx0 : ps[0]? = some x0) (hm : mg "super" = none) (len : ∀ vs H Q E, sp vs H Q E → vs.length = ps.length)
    {pl : Env → Sem Bool} (hev : ∀ env : Env, eval (.Call (.Attribute (.Call (.Name "super" p0) [] [] p1) "__init__" p2) (e :: es) [] p3) env = (do
      let ov ← attributeBase (.Call (.Name "super" p0) [] [] p1) "__init__" env (eval (.Call (.Name "super" p0) [] [] p1) env)
      standAt p2.atName
      let (g, first) ← holding [ov] (getMethod ov "__init__" (pl env))
      callWith p3 g first (backTo p3 (starEach (e :: es) env)) []))
    (he : ∀ env : Env, starEach (e :: es) env = (false, eval e env) :: starEach es env) (hpl : ∀ env : Env, (backTo p3 (starEach es env)).any (·.1) = false)
    (hbody : ∀ (A : Around) (outer : List Env) (s : Shared) (H : Hp) (vs : List V) (Q : VK) (E : XK), Room k (A.deeper (PySem.W.ksEnv qual scope s.heap.objs.size f (.ref cda) cc)) → sp vs H Q E →
      ∃ (a : Addr) (ta : TA) (tr : TS), vs[0]? = some (.ref a) ∧ H a = some (exo a C none) ∧ PA (supCx CX P w K mg base N qual scope f (.ref cda) cc A outer s H E) (e :: es) ta ∧ PSs (supCx CX P w K mg base N qual scope f (.ref cda) cc A outer s H E) rest tr ∧
        ta (L2.start N vs) H fun ws H1 => ws.length ≤ 1000 ∧ H1 a = some (exo a C none) ∧ tr { nx := fun _ H' => Q .non H', rt := Q } (L2.start N vs) H1) :
    FnOk P w K mg base CX (k + 1) f fd ps sp := by
  refine ⟨len, fun A outer s H args us vs Q E hr e0 hb r hsp => ?_⟩
  have hl := len _ _ _ _ hsp
  obtain ⟨oc, od, osl, dV, kV, doc, pm, an, ct, rfl, lk⟩ := T.fn
  obtain ⟨c1, d1, vs1, sl1, fl, tf, hcode, hvs, hfile⟩ := T.file
  obtain ⟨cl, cld, csl, hcell⟩ := T.cell
  obtain ⟨ar, hpar, har⟩ := T.par
  have KX : K.In s.heap := e0.mod.kin.keeps fun b o z => (e0.bs b o z).1
  have lim : s.heap.NoLimit := e0.mod.nolimit.keeps fun b o z => (e0.bs b o z).1
  obtain ⟨a, ta, tr, hv0, ha, hpa, hps, hq⟩ := hbody A outer s H vs Q E (hr.deeper _) hsp
  refine PySem.ks_codeAny_call_defAt (binds := ps.zip us) hr.depth (KX _ _ lk) rfl lim (PySem.W.codeRec_of KX T.code) rfl hb S.nocell (fun y hy => S.par y.1 (List.of_mem_zip (show (y.1, y.2) ∈ ps.zip us from hy)).1) (fun h1 hns kp => ?_) S.co S.gen S.kind
  have I : Inv (supCx CX P w K mg base N qual scope f (.ref cda) cc A outer s H E) [] (L2.start N vs) H { s with heap := h1, toks := s.toks + (ps.zip us).length } := sup_start S hr.hd e0 hl r ⟨cl, cld, csl, hcell⟩ hns kp
  have K1 : K.In h1 := KX.keeps kp
  have fin : ∀ {sg' : L2.St} {H' : Hp} {v : V} {u : Value} {s' : Shared}, Inv (supCx CX P w K mg base N qual scope f (.ref cda) cc A outer s H E) [] sg' H' s' → L2.RelV v u → Q v H' → CE outer P w H s Q u s' := fun J rv q => ⟨_, _, J.os, J.bare, J.base, J.hok, rv, q⟩
  refine PySem.ks_wpAt_execs_cons (PySem.ks_wpAt_Expr_any (PySem.ks_wpAt_mono (Q := fun _ s' => ∃ H1, Inv (supCx CX P w K mg base N qual scope f (.ref cda) cc A outer s H E) [] (L2.start N vs) H1 s' ∧ tr { nx := fun _ H' => Q .non H', rt := Q } (L2.start N vs) H1) ?_ (fun v s' z => ?_) fun _ _ z => z) (by show (scope.kind == _ && _) = false; rw [S.kind]; rfl))
  · obtain ⟨cdC, hcd⟩ : ∃ cdC, PySem.W.clsIn K C = some cdC := by
      have z := T.nxt
      unfold PySem.W.ks_superIn at z
      cases q : PySem.W.clsIn K C with
      | none => rw [q] at z; cases z
      | some cdC => exact ⟨cdC, rfl⟩
    have hal : PySem.W.alongIn K "__init__" ((cdC.mro.dropWhile (· != .ref C)).drop 1) = some (some (.builtin "ValueError.__init__")) := by
      have z := T.nxt
      unfold PySem.W.ks_superIn at z
      rw [hcd] at z
      exact z
    obtain ⟨oD, hD1, hD2⟩ : ∃ oD, h1.get? C = some oD ∧ oD.data = .cls cdC := by
      unfold PySem.W.clsIn at hcd
      split at hcd
      · rename_i q; cases hcd; exact ⟨_, K1 _ _ q, rfl⟩
      · cases hcd
    obtain ⟨t1, hoa⟩ := exo_at I.hok ha
    have ⟨m, hns2, _⟩ := I.loc
    have hmro : PySem.W.Looks (model P w) h1 (mroOf (.ref C)) cdC.mro := (PySem.W.looks_clsIn K1 hcd).andThen .now
    have haC : a ≠ C := fun z => by
      rw [z, hD1] at hoa
      have := Option.some.inj hoa
      rw [this] at hD2
      cases hD2
    refine PySem.ks_wpAt_MethodCall ?_ (hev _)
    refine PySem.ks_wpAt_super_base S.sup S.cls (by decide) rfl (K1 _ _ lk) rfl hpar rfl (K1 _ _ hcode) rfl hvs hfile T.top ?_
    obtain ⟨mb, hb1, hb2⟩ := e0.mod.blt
    have bk : ∀ b o, base.get? b = some o → h1.get? b = some o := fun b o z => kp b o (e0.bs b o z).1
    refine PySem.W.ks_loadName_global S.kind S.sup (Calls.loadGlobal_builtin (e0.mod.glob.keeps bk) hm (hb1.keeps bk) ((hb2 _ (by decide)).trans (by decide +kernel)) ⟨rfl, ?_⟩)
    refine wpAny_loadName_free S.kind S.cls (by show ([(("__class__" : Str), cc)] : List (Str × Addr)).lookup ("__class__" : Str) = some cc; rw [List.lookup_cons]; simp) ⟨_, K1 _ _ hcell, rfl⟩ ?_
    obtain ⟨u0, hu0, ru0⟩ := r.get hv0
    cases ru0
    have ndP : ps.Nodup := by rw [← S.pre]; exact S.nd.sublist (List.take_sublist _ _)
    refine wpAny_loadName_local S.kind (by rw [har]; exact S.par x0 (List.mem_of_getElem? hx0)) hns (by rw [har]; exact zip_rev ndP hx0 hu0) ?_
    refine PySem.ks_wpAny_isType_cls hD1 hD2 ⟨rfl, ?_⟩
    refine PySem.ks_wpAny_call_super hD1 hD2 hoa rfl (fun c z => by cases z) (PySem.W.looks_mroIn K1 T.sub) fun h2 hso k2 => ?_
    have K2 : K.In h2 := K1.keeps k2
    refine PySem.W.kxs_getMethod PySem.W.kxs_ValueError hso (PySem.W.looks_opaque K2 T.opq) (hmro.keeps k2) rfl K2 hal ?_ haC (by decide) ?_
    · have z : PySem.W.InstAt h2 a (PySem.HandSPX.excO C t1) C none := ⟨k2 _ _ hoa, rfl, rfl, True.intro⟩
      exact z.type.andThen (PySem.W.looks_subIn K2 T.bas)
    · have kk : ∀ b o, h1.get? b = some o → (h2.push (PySem.W.kxs_mw "ValueError.__init__" a)).get? b = some o := fun b o z => Heap.get?_push_of_some _ (k2 b o z)
      have J0 := I.kept (t' := s.toks + (ps.zip us).length + 1) kk
      have sz : h1.objs.size ≤ h2.objs.size := Nat.le_of_lt (Heap.lt_size hso)
      have nu : H h2.objs.size = none := I.hok.fresh sz
      have gu : (h2.push (PySem.W.kxs_mw "ValueError.__init__" a)).get? h2.objs.size = some (PySem.W.kxs_mw "ValueError.__init__" a) := Heap.get?_push_size _ rfl
      have J1 := pin_add J0 gu nu (Nat.ne_of_gt (Nat.lt_of_lt_of_le I.lt sz)) (I.nofs sz) (fun v z => by cases z)
      show wpAny _ _ (callWith p3 (.ref h2.objs.size) [] (backTo p3 (starEach (e :: es) _)) []) _ _ _
      have run := hpa.run p3 _ _ _ H _ J1 hq
      rw [he] at run ⊢
      refine PySem.W.kxs_callWith (i := "ValueError.__init__") (x := a) (by show (false || (backTo p3 (starEach es _)).any (·.1)) = false; rw [hpl]; rfl) (Calls.evalArgs_plain (thn run fun us2 s2 ⟨ws, H1, J2, r2, hl2, ea2, q2⟩ => ?_))
      refine ⟨(J2.pin (h2.objs.size, _) (by simp)).1, ?_⟩
      refine bound_init T.oex J2 (J2.pin (h2.objs.size, _) (by simp)).1 ea2 (by show us2.length ≤ _; rw [← r2.length, sizeLine_eq]; omega) fun s3 J3 => ⟨H1, pin_less J3, q2⟩
  · obtain ⟨H1, J, q⟩ := z
    refine wpAt_of_wpAny (wpAny_mono (hps.run [] s' _ H1 _ J q) (fun fl s2 z => ?_) fun _ _ z => z)
    cases fl with
    | ret u =>
      obtain ⟨v, sg', H', J2, rv, q2⟩ := z
      exact fin J2 rv q2
    | next =>
      obtain ⟨sg', H', J2, q2⟩ := z
      exact fin (v := V.non) (u := Value.none) J2 rfl q2
    | brk => obtain ⟨_, _, _, q⟩ := z; exact False.elim q
    | cont => obtain ⟨_, _, _, q⟩ := z; exact False.elim q
end
end DX
/-! DX4: the promises of these __init__: which fields they lay. -/
namespace DX
open PySem L2
/-- where a field comes from: a text, the i-th argument -/
inductive Fs where
  | c (s : Str) | a (i : Nat)
def Fs.v (ws : List V) : Fs → Option V
  | .c s => some (.str s)
  | .a i => ws[i]?
def FV (ws : List V) : List Fs → List V → Prop
  | [], [] => True
  | f :: fs, y :: ys => f.v ws = some y ∧ FV ws fs ys
  | _, _ => False
/-- an __init__ of n arguments that lays the fields nf (the last one first) -/
def spIni (C : Addr) (nf : List (Str × Fs)) (n : Nat) (cond : List V → Prop) : Sp := fun vs H Q _ => ∃ (a : Addr) (ws ys : List V), vs = .ref a :: ws ∧ ws.length = n ∧ cond ws ∧ FV ws (nf.map (·.2)) ys ∧ H a = some (exo a C none) ∧
  ∀ d, H d = none → d ≠ a → Q .non (upd (upd H d (exd d ((nf.map (·.1)).zip ys))) a (exo a C (some d)))
theorem spIni_len {C : Addr} {nf : List (Str × Fs)} {n : Nat} {cond : List V → Prop} {ps : List Str} (h : ps.length = n + 1) : ∀ vs H Q E, spIni C nf n cond vs H Q E → vs.length = ps.length := fun vs H Q E ⟨a, ws, ys, e, l, _⟩ => by
  rw [e, h, List.length_cons, l]
theorem upd_two {H : Hp} {a d : Addr} {o1 o2 p : HO} (h : d ≠ a) : upd (upd (upd H d o1) a p) d o2 = upd (upd H d o2) a p := by
  funext b
  by_cases hb : b = d
  · subst hb; rw [upd_same, upd_ne h, upd_same]
  · rw [upd_ne hb]
    by_cases ha : b = a
    · subst ha; rw [upd_same, upd_same]
    · rw [upd_ne ha, upd_ne hb, upd_ne ha, upd_ne hb]
section
variable {P : Program} {w : World} {K : PySem.W.Frag} {mg : Str → Option Value} {base : Heap} {name qual f1 f2 x1 x2 code msg : Str} {params : Arguments} {scope : Scope} {f cc cda C : Addr} {fd : FuncData} {CX : CXT} {k : Nat}
  {p0 p1 p2 p3 p4 q1 q2 q3 q4 r1 r2 r3 r4 s1 s2 s3 s4 z0 : Pos} {j0 j1 : Nat}
/-- self.f1 = x1; self.code = code -/
theorem ini1 (T : SupK P K C f cc cda name qual params [.Expr (.Call (.Attribute (.Call (.Name "super" p0) [] [] p1) "__init__" p2) [.Constant (.str msg) j0 z0] [] p3) p4,
      .Assign [.Attribute (.Name "self" q1) f1 q2] (.Name x1 q3) q4, .Assign [.Attribute (.Name "self" r1) "code" r2] (.Constant (.str code) j1 r3) r4] scope "self" fd)
    (S : SupScope ["self", x1] ["self", x1] scope) (hm : mg "super" = none) (n1 : PySem.W.findIn K (.ref C) f1 = some none) (n2 : PySem.W.findIn K (.ref C) "code" = some none)
    (hd1 : (x1 == ("__debug__" : Str)) = false) (hd2 : (x1 == ("__classdict__" : Str)) = false)
    {pl : Env → Sem Bool} (hev : ∀ env : Env, eval (.Call (.Attribute (.Call (.Name "super" p0) [] [] p1) "__init__" p2) [.Constant (.str msg) j0 z0] [] p3) env = (do
      let ov ← attributeBase (.Call (.Name "super" p0) [] [] p1) "__init__" env (eval (.Call (.Name "super" p0) [] [] p1) env)
      standAt p2.atName
      let (g, first) ← holding [ov] (getMethod ov "__init__" (pl env))
      callWith p3 g first (backTo p3 (starEach [.Constant (.str msg) j0 z0] env)) [])) :
    FnOk P w K mg base CX (k + 1) f fd ["self", x1] (spIni C [("code", .c code), (f1, .a 0)] 1 fun _ => True) := by
  refine fn_sup (rest := _) T S rfl hm (spIni_len rfl) hev (fun _ => rfl) (fun _ => rfl) fun A outer s H vs Q E hr ⟨a, ws, ys, ev, hl, _, fv, ea, q⟩ => ?_
  obtain ⟨v, rfl⟩ : ∃ v, ws = [v] := by
    match ws, hl with
    | [v], _ => exact ⟨v, rfl⟩
  obtain rfl : ys = [.str code, v] := by
    match ys, fv with
    | [y1, y2], ⟨h1, h2, _⟩ =>
      have h1 : some (V.str code) = some y1 := h1
      have h2 : some v = some y2 := h2
      cases h1; cases h2; rfl
  subst ev
  have vs0 : Vis scope ("self" : Str) := .inl (S.par _ List.mem_cons_self)
  have vs1 : Vis scope x1 := .inl (S.par _ (List.mem_cons_of_mem _ List.mem_cons_self))
  refine ⟨a, _, _, rfl, ea, pa_cons pe_str pa_nil, pss_cons (ps_ost (pe_var (i := 0) rfl vs0 (by decide) (by decide)) (pe_var (i := 1) rfl vs1 hd1 hd2)) (pss_one (ps_ost (pe_var (i := 0) rfl vs0 (by decide) (by decide)) pe_str)), ?_⟩
  refine ⟨Nat.le_of_ble_eq_true rfl, ea, ?_⟩
  refine ⟨v, rfl, .ref a, rfl, a, C, rfl, T.oex, n1, .inl ⟨ea, fun d nd ne => ?_⟩⟩
  refine ⟨.ref a, rfl, a, C, rfl, T.oex, n2, .inr ⟨d, _, upd_same, by rw [upd_ne ne, upd_same], Nat.le_of_ble_eq_true rfl, ?_⟩⟩
  rw [upd_two ne]
  exact q d nd ne
/-- self.code = code -/
theorem ini0 (T : SupK P K C f cc cda name qual params [.Expr (.Call (.Attribute (.Call (.Name "super" p0) [] [] p1) "__init__" p2) [.Constant (.str msg) j0 z0] [] p3) p4,
      .Assign [.Attribute (.Name "self" r1) "code" r2] (.Constant (.str code) j1 r3) r4] scope "self" fd)
    (S : SupScope ["self"] ["self"] scope) (hm : mg "super" = none) (n2 : PySem.W.findIn K (.ref C) "code" = some none)
    {pl : Env → Sem Bool} (hev : ∀ env : Env, eval (.Call (.Attribute (.Call (.Name "super" p0) [] [] p1) "__init__" p2) [.Constant (.str msg) j0 z0] [] p3) env = (do
      let ov ← attributeBase (.Call (.Name "super" p0) [] [] p1) "__init__" env (eval (.Call (.Name "super" p0) [] [] p1) env)
      standAt p2.atName
      let (g, first) ← holding [ov] (getMethod ov "__init__" (pl env))
      callWith p3 g first (backTo p3 (starEach [.Constant (.str msg) j0 z0] env)) [])) :
    FnOk P w K mg base CX (k + 1) f fd ["self"] (spIni C [("code", .c code)] 0 fun _ => True) := by
  refine fn_sup (rest := _) T S rfl hm (spIni_len rfl) hev (fun _ => rfl) (fun _ => rfl) fun A outer s H vs Q E hr ⟨a, ws, ys, ev, hl, _, fv, ea, q⟩ => ?_
  obtain rfl : ws = [] := List.eq_nil_of_length_eq_zero hl
  obtain rfl : ys = [.str code] := by
    match ys, fv with
    | [y1], ⟨h1, _⟩ =>
      have h1 : some (V.str code) = some y1 := h1
      cases h1; rfl
  subst ev
  have vs0 : Vis scope ("self" : Str) := .inl (S.par _ List.mem_cons_self)
  refine ⟨a, _, _, rfl, ea, pa_cons pe_str pa_nil, pss_one (ps_ost (pe_var (i := 0) rfl vs0 (by decide) (by decide)) pe_str), ?_⟩
  refine ⟨Nat.le_of_ble_eq_true rfl, ea, ?_⟩
  exact ⟨.ref a, rfl, a, C, rfl, T.oex, n2, .inl ⟨ea, fun d nd ne => q d nd ne⟩⟩
/-- self.f1 = x1; self.f2 = x2; self.code = code; the text ends with str(x1) -/
theorem ini2 {za zb zc zd : Pos} (T : SupK P K C f cc cda name qual params [.Expr (.Call (.Attribute (.Call (.Name "super" p0) [] [] p1) "__init__" p2) [.BinOp (.Constant (.str msg) j0 z0) .Add (.Call (.Name "str" za) [.Name x1 zb] [] zc) zd] [] p3) p4,
      .Assign [.Attribute (.Name "self" q1) f1 q2] (.Name x1 q3) q4, .Assign [.Attribute (.Name "self" s1) f2 s2] (.Name x2 s3) s4, .Assign [.Attribute (.Name "self" r1) "code" r2] (.Constant (.str code) j1 r3) r4] scope "self" fd)
    (S : SupScope ["self", x1, x2] ["self", x1, x2] scope) (hm : mg "super" = none) (hms : mg "str" = none) (hgs : scope.names.lookup ("str" : Str) = some .globalImplicit) (hmsg : msg.length ≤ 1000)
    (n1 : PySem.W.findIn K (.ref C) f1 = some none) (n3 : PySem.W.findIn K (.ref C) f2 = some none) (n2 : PySem.W.findIn K (.ref C) "code" = some none)
    (hd1 : (x1 == ("__debug__" : Str)) = false) (hd2 : (x1 == ("__classdict__" : Str)) = false) (hd3 : (x2 == ("__debug__" : Str)) = false) (hd4 : (x2 == ("__classdict__" : Str)) = false)
    {pl : Env → Sem Bool} (hev : ∀ env : Env, eval (.Call (.Attribute (.Call (.Name "super" p0) [] [] p1) "__init__" p2) [.BinOp (.Constant (.str msg) j0 z0) .Add (.Call (.Name "str" za) [.Name x1 zb] [] zc) zd] [] p3) env = (do
      let ov ← attributeBase (.Call (.Name "super" p0) [] [] p1) "__init__" env (eval (.Call (.Name "super" p0) [] [] p1) env)
      standAt p2.atName
      let (g, first) ← holding [ov] (getMethod ov "__init__" (pl env))
      callWith p3 g first (backTo p3 (starEach [.BinOp (.Constant (.str msg) j0 z0) .Add (.Call (.Name "str" za) [.Name x1 zb] [] zc) zd] env)) [])) :
    FnOk P w K mg base CX (k + 1) f fd ["self", x1, x2] (spIni C [("code", .c code), (f2, .a 1), (f1, .a 0)] 2 fun ws => ∃ z : Str, ws[0]? = some (.str z) ∧ z.length ≤ 1000) := by
  refine fn_sup (rest := _) T S rfl hm (spIni_len rfl) hev (fun _ => rfl) (fun _ => rfl) fun A outer s H vs Q E hr ⟨a, ws, ys, ev, hl, ⟨z, hz, hzl⟩, fv, ea, q⟩ => ?_
  obtain ⟨v1, v2, rfl⟩ : ∃ v1 v2, ws = [v1, v2] := by
    match ws, hl with
    | [v1, v2], _ => exact ⟨v1, v2, rfl⟩
  have hz : some v1 = some (V.str z) := hz
  cases hz
  obtain rfl : ys = [.str code, v2, .str z] := by
    match ys, fv with
    | [y1, y2, y3], ⟨h1, h2, h3, _⟩ =>
      have h1 : some (V.str code) = some y1 := h1
      have h2 : some v2 = some y2 := h2
      have h3 : some (V.str z) = some y3 := h3
      cases h1; cases h2; cases h3; rfl
  subst ev
  have vs0 : Vis scope ("self" : Str) := .inl (S.par _ List.mem_cons_self)
  have vs1 : Vis scope x1 := .inl (S.par _ (List.mem_cons_of_mem _ List.mem_cons_self))
  have vs2 : Vis scope x2 := .inl (S.par _ (List.mem_cons_of_mem _ (List.mem_cons_of_mem _ List.mem_cons_self)))
  have szl : sizeLine = 16777216 := rfl
  have pv0 := pe_var (X := supCx CX P w K mg base ["self", x1, x2] qual scope f (.ref cda) cc A outer s H E) (i := 0) (pos := q1) rfl vs0 (by decide) (by decide)
  refine ⟨a, _, _, rfl, ea, pa_cons (pe_op op_add_str pe_str (pe_callTy SkE.call_str_str (x := "str") hgs hms (by decide +kernel) (pa_cons (pe_var (i := 1) rfl vs1 hd1 hd2) pa_nil))) pa_nil,
    pss_cons (ps_ost (pe_var (i := 0) rfl vs0 (by decide) (by decide)) (pe_var (i := 1) rfl vs1 hd1 hd2)) (pss_cons (ps_ost (pe_var (i := 0) rfl vs0 (by decide) (by decide)) (pe_var (i := 2) rfl vs2 hd3 hd4)) (pss_one (ps_ost (pe_var (i := 0) rfl vs0 (by decide) (by decide)) pe_str))), ?_⟩
  refine ⟨.str z, rfl, z, rfl, msg, z, rfl, rfl, by omega, Nat.le_of_ble_eq_true rfl, ea, ?_⟩
  refine ⟨.str z, rfl, .ref a, rfl, a, C, rfl, T.oex, n1, .inl ⟨ea, fun d nd ne => ?_⟩⟩
  refine ⟨v2, rfl, .ref a, rfl, a, C, rfl, T.oex, n3, .inr ⟨d, _, upd_same, by rw [upd_ne ne, upd_same], Nat.le_of_ble_eq_true rfl, ?_⟩⟩
  rw [upd_two ne]
  refine ⟨.ref a, rfl, a, C, rfl, T.oex, n2, .inr ⟨d, _, upd_same, by rw [upd_ne ne, upd_same], Nat.le_of_ble_eq_true rfl, ?_⟩⟩
  rw [upd_two ne]
  exact q d nd ne
end
end DX
/-! DX5: raise C(..) over data. -/
namespace DL
open PySem L2 DX
def FD (ds : List Dat) : List Fs → List Dat → Prop
  | [], [] => True
  | f :: fs, y :: ys => (match f with | .c s => some (Dat.str s) | .a i => ds[i]?) = some y ∧ FD ds fs ys
  | _, _ => False
def condV (b : Bool) (ws : List V) : Prop := b = true → ∃ z : Str, ws[0]? = some (.str z) ∧ z.length ≤ 1000
def condD (b : Bool) (ds : List Dat) : Prop := b = true → ∃ z : Str, ds[0]? = some (.str z) ∧ z.length ≤ 1000
/-- an own error's class that may be made: its __init__ lays nf -/
def RaiseV (P : Program) (w : World) (K : PySem.W.Frag) (mg : Str → Option Value) (base : Heap) (k : Nat) (C : Addr) (nf : List (Str × Fs)) (n : Nat) (b : Bool) : Prop :=
  ∃ fI fd ps, OexC K C ∧ PySem.W.findIn K (.ref C) "__init__" = some (some (.ref fI)) ∧ PySem.W.typeIn K (.ref fI) = some (.type "function") ∧ FnOk P w K mg base (L2.CX P w) k fI fd ps (spIni C nf n (condV b)) ∧ Binds K fd ps []
def uRaise (C : Addr) (nf : List (Str × Fs)) (n : Nat) (b : Bool) (ua : UA) : US := fun D dl S => ua dl S (fun ds S1 => ds.length = n ∧ condD b ds ∧ ∃ xs, FD ds (nf.map (·.2)) xs ∧ D.ex ⟨C, nf.map (·.1), xs⟩ dl S1) (fun e S1 => D.ex e dl S1)
theorem FD.len {ds : List Dat} : ∀ {fs : List Fs} {xs : List Dat}, FD ds fs xs → fs.length = xs.length
  | [], [], _ => rfl
  | _ :: fs, _ :: ys, h => by rw [List.length_cons, List.length_cons, FD.len h.2]
  | [], _ :: _, h => h.elim
  | _ :: _, [], h => h.elim
theorem fd_fv [Tabl] {L : LL} {H : Hp} {S : Store} {T : List (Addr × HO)} {ws : List V} {ds : List Dat} (q : Ls L ws ds) : ∀ {fs : List Fs} {xs : List Dat} {L0 : LL}, Lle L L0 → SR H L0 S T → FD ds fs xs → ∃ ys L', FV ws fs ys ∧ Lle L0 L' ∧ Ls L' ys xs ∧ SR H L' S T
  | [], [], L0, _, hs, _ => ⟨[], L0, True.intro, .refl _, True.intro, hs⟩
  | f :: fs, x :: xs, L0, l0, hs, h => by
    obtain ⟨h1, h2⟩ := h
    obtain ⟨ys, L1, a1, a2, a3, a4⟩ := fd_fv q l0 hs h2
    cases f with
    | c s =>
      have h1 : some (Dat.str s) = some x := h1
      cases h1
      exact ⟨.str s :: ys, Ladd L1 (.str s) (.str s), ⟨rfl, a1⟩, a2.trans Ladd.le, ⟨Ladd.here, a3.le Ladd.le⟩, a4.flat rfl⟩
    | a i =>
      have h1 : ds[i]? = some x := h1
      obtain ⟨v, hv, pv⟩ := q.get h1
      exact ⟨v :: ys, L1, ⟨hv, a1⟩, a2, ⟨a2 _ _ (l0 _ _ pv), a3⟩, a4⟩
  | [], _ :: _, _, _, _, h => h.elim
  | _ :: _, [], _, _, _, h => h.elim
theorem cond_ok [Tabl] {L : LL} {H : Hp} {S : Store} {T : List (Addr × HO)} {ws : List V} {ds : List Dat} {b : Bool} (hs : SR H L S T) (q : Ls L ws ds) (h : condD b ds) : condV b ws := fun e => by
  obtain ⟨z, hz, hl⟩ := h e
  obtain ⟨v, hv, pv⟩ := q.get hz
  exact ⟨z, by rw [hv, hs.vstr pv], hl⟩
/-- the heap that an error in the air leaves -/
theorem made_heap {H1 : Hp} {a d C : Addr} {fs : List (Str × V)} (na : H1 a = none) (ne : d ≠ a) : upd (del (upd (upd (upd H1 a (exo a C none)) d (exd d fs)) a (exo a C (some d))) a) d (.xd fs) = upd H1 d (.xd fs) := by
  funext b
  by_cases hb : b = d
  · subst hb; rw [upd_same, upd_same]
  · rw [upd_ne hb, upd_ne hb]
    by_cases ha : b = a
    · subst ha; rw [del_same, na]
    · rw [del_ne ha, upd_ne ha, upd_ne hb, upd_ne ha]
section
variable {X : Cx} {W : WX} {C : Addr} {nf : List (Str × Fs)} {n k j : Nat} {b : Bool} {x : Str} {p pos rpos : Pos} {e : Expr} {es : List Expr} {t : TA} {u : UA}
def tRaise (C : Addr) (nf : List (Str × Fs)) (n : Nat) (b : Bool) (W : WX) (t : TA) : TS := fun _ sg H => tMkO C (spIni C nf n (condV b)) [] t sg H fun cls d H' => W cls d sg H'
theorem imp_raise [Tabl] (hn0 : n ≤ 1000) (ha : ImpA W t u) : ImpS W (tRaise C nf n b W t) (uRaise C nf n b u) := fun {sg dl L H S T D D'} he hs h hD =>
  ha he hs h (fun ws ds L1 H1 S1 l1 p1 s1 ⟨hn, hc, xs, hx, hk⟩ => by
    obtain ⟨ys, L2, fv, l2, p2, s2⟩ := fd_fv p1 (.refl _) s1 hx
    refine ⟨by rw [p1.length, hn]; exact hn0, fun a na => ⟨a, ws, ys, by rw [List.append_nil], by rw [p1.length, hn], cond_ok s1 p1 hc, fv, upd_same, fun d nd ne => ?_⟩⟩
    have nd1 : H1 d = none := by rw [upd_ne ne] at nd; exact nd
    refine ⟨rfl, d, _, upd_same, by rw [upd_ne ne, upd_same], nd1, ?_⟩
    rw [made_heap na ne]
    have len : (nf.map (·.1)).length = ys.length := by
      rw [p2.length, ← hx.len, List.length_map, List.length_map]
    have s3 : SR (upd H1 d (.xd ((nf.map (·.1)).zip ys))) (Ladd L2 (.ref d) (.xd (nf.map (·.1)) xs)) S1 T := s2.tree nd1 fun R rho nr hL => by simp only [RD]; exact ⟨d, ys, rfl, nr, upd_same, len, Ls.rds hL p2⟩
    exact hD.ex ⟨C, nf.map (·.1), xs⟩ d sg dl _ _ _ ((l1.trans l2).trans Ladd.le) rfl (he.le ((l1.trans l2).trans Ladd.le)) Ladd.here s3 hk) (hD.ex.x rfl he)
theorem ds_raise [Tabl] (c : RaiseV X.prog X.w X.K X.mg X.base k C nf n b) (hr : Room j X.A) (hj : k + 1 ≤ j) (hm : X.mg x = some (.ref C)) (tk : Takes X W) (ha : DA X W (e :: es) t u) (hn0 : n ≤ 1000 := by decide) (hc : X.calm = true := by rfl) (hg : Gl X x := by rfl)
    (hdb : (x == ("__debug__" : Str)) = false := by decide) (he : starEach (e :: es) X.env = (false, eval e X.env) :: starEach es X.env := by rfl) (hpl : (backTo pos (starEach es X.env)).any (·.1) = false := by rfl) :
    DS X W (.Raise (some (.Call (.Name x p) (e :: es) [] pos)) none rpos) (tRaise C nf n b W t) (uRaise C nf n b u) := by
  obtain ⟨fI, fd, ps, T, iC, tI, F1, hb⟩ := c
  exact ⟨ps_raise hc tk (pmk_oex T iC tI F1 (hr.mono hj) hb .nil (fun _ _ _ _ _ _ _ z => (cx_none z).elim) hg hm ha.run hdb he hpl), imp_raise hn0 ha.imp⟩
/-- C() as an error that is made -/
theorem pmk_none {fI : Addr} {fd : FuncData} {ps : List Str} {sp : Sp} (T : OexC X.K C) (iC : PySem.W.findIn X.K (.ref C) "__init__" = some (some (.ref fI))) (tI : PySem.W.typeIn X.K (.ref fI) = some (.type "function"))
    (F1 : FnOk X.prog X.w X.K X.mg X.base (L2.CX X.prog X.w) k fI fd ps sp) (hr : Room (k + 1) X.A) (hb : Binds X.K fd ps []) (hg : Gl X x) (hm : X.mg x = some (.ref C)) (hdb : (x == ("__debug__" : Str)) = false) : PMk X (.Call (.Name x p) [] [] pos) (tMkO C sp [] tNil) := by
  intro pins s sg H Q I h
  obtain ⟨hz, q1⟩ := h
  obtain ⟨nm, q, N, bs, bm, sn, sub, ab, col, dd, k0, k1, k2, k3, k5, hC, hbm⟩ := T.cls
  refine wpAny_Call_Name_kw (ld_glob I hg hm (PySem.W.callWith_K0 I.kIn T.kC ?_) hdb)
  obtain ⟨hp, g, dr, tk, os⟩ := s
  have up : hp.objs.size ≤ hp.objs.size + 1 := Nat.le_succ _
  have na : H (hp.objs.size + 1) = none := I.hok.fresh up
  have want := q1 (hp.objs.size + 1) na
  have keep : ∀ b o, hp.get? b = some o → ((hp.push (PySem.W.kdv_tup [])).push (PySem.HandSPX.excO C hp.objs.size)).get? b = some o := fun b o z => Heap.get?_push_of_some _ (Heap.get?_push_of_some _ z)
  have at_ : ((hp.push (PySem.W.kdv_tup [])).push (PySem.HandSPX.excO C hp.objs.size)).get? (hp.objs.size + 1) = some (PySem.HandSPX.excO C hp.objs.size) := by heap_get
  have J : Inv X pins sg (upd H (hp.objs.size + 1) (exo (hp.objs.size + 1) C none)) ⟨(hp.push (PySem.W.kdv_tup [])).push (PySem.HandSPX.excO C hp.objs.size), g, dr, tk, os⟩ :=
    I.laid (o := exo (hp.objs.size + 1) C none) keep up (exo_ok at_)
  have vals : Vals [V.ref (hp.objs.size + 1)] [Value.ref (hp.objs.size + 1)] := .cons rfl .nil
  have len : ([Value.ref (hp.objs.size + 1)] ++ ([] : List Value)).length = ps.length := by
    have z := F1.len _ _ _ _ want
    exact z
  have room := hr.make C [] []
  have run := F1.run _ X.stack _ _ ⟨[Value.ref (hp.objs.size + 1)], []⟩ [Value.ref (hp.objs.size + 1)] _ _ (fun _ _ _ => False) room (J.env0.make C [] []) (by
    have z := hb _ [Value.ref (hp.objs.size + 1)] J.kIn len
    rwa [List.append_nil] at z) vals want
  refine wpAny_call (PySem.HandSPX.call_own F.excBase_ValueError (fun Y => PySem.HandSPX.refsVE_contains Y bm hbm) (I.kIn _ _ hC) (PySem.W.looks_findIn I.kIn iC) (fun self => PySem.W.bind_fn I.kIn self tI) (Nat.zero_le _) (codeAny_mono run fun res s' z => ?_))
  cases res with
  | error er => exact (cx_none z).elim
  | ok fl =>
    cases fl with
    | ret v =>
      obtain ⟨w1, H2, o2, b2, un2, hok2, rv, ev, d, fs, ea, ed, hd1, q2⟩ := z
      subst ev
      obtain ⟨h2, g2, d2, t2, os'⟩ := s'
      exact ⟨rv, mk_end (raises_own T.exC T.tyC) I up keep un2 hok2 o2 b2 ea ed hd1 q2⟩
    | next => exact z.elim
    | brk => exact z.elim
    | cont => exact z.elim
theorem ds_raise0 [Tabl] (c : RaiseV X.prog X.w X.K X.mg X.base k C nf 0 b) (hr : Room j X.A) (hj : k + 1 ≤ j) (hm : X.mg x = some (.ref C)) (tk : Takes X W) (hc : X.calm = true := by rfl) (hg : Gl X x := by rfl) (hdb : (x == ("__debug__" : Str)) = false := by decide) :
    DS X W (.Raise (some (.Call (.Name x p) [] [] pos)) none rpos) (tRaise C nf 0 b W tNil) (uRaise C nf 0 b uNil) := by
  obtain ⟨fI, fd, ps, T, iC, tI, F1, hb⟩ := c
  exact ⟨ps_raise hc tk (pmk_none T iC tI F1 (hr.mono hj) hb hg hm hdb), imp_raise (Nat.zero_le _) (da_nil (X := X)).imp⟩
end
section
variable {dl : Env'} {S : Store} {D : DEnds} {C : Addr} {nf : List (Str × Fs)} {n : Nat} {b : Bool} {ua : UA}
theorem x_raise (h : ua dl S (fun ds S1 => ds.length = n ∧ condD b ds ∧ ∃ xs, FD ds (nf.map (·.2)) xs ∧ D.ex ⟨C, nf.map (·.1), xs⟩ dl S1) (fun e S1 => D.ex e dl S1)) : uRaise C nf n b ua D dl S := h
end
end DL
/-! DY1: lambdas are made. -/
namespace DL
open PySem PySem.Spec L2 PyProof.Rows
/-- a reading over data as a reading over values -/
def tOf [Tabl] (W : WX) (u : UE) : TE := fun sg H Q => ∃ dl L S T K X, EnvIn sg dl L ∧ SR H L S T ∧ u dl S K X ∧ EOk L T K Q ∧ XOk W sg L T X
theorem de_of [Tabl] {X : Cx} {W : WX} {e : Expr} {u : UE} (h : ∀ pins s sg H Q dl L S T K Xk, Inv X pins sg H s → EnvIn sg dl L → SR H L S T → u dl S K Xk → EOk L T K Q → XOk W sg L T Xk → wpAny (model X.prog X.w) X.A (eval e X.env) (EP X pins sg Q) X.xe s) : DE X W e (tOf W u) u :=
  ⟨⟨fun pins s sg H Q I ⟨dl, L, S, T, K, Xk, h1, h2, h3, h4, h5⟩ => h pins s sg H Q dl L S T K Xk I h1 h2 h3 h4 h5⟩, fun {sg dl L H S T K X Q} h1 h2 h3 h4 h5 => ⟨dl, L, S, T, K, X, h1, h2, h3, h4, h5⟩⟩
/-- only tables changed -/
theorem SRx.extN [Tabl] {H H1 : Hp} {L : LL} {S : Store} {T : List (Addr × HO)} {rho : List Addr} (s : SRx H L S T rho) (e : LamX.ExtN H H1) (t : LamX.Tabs Tabl.tabs H1) : SRx H1 L S T rho := by
  have m : Mono H H1 (rho ++ T.map (·.1)) (rho ++ T.map (·.1)) rho rho := ⟨fun a o _ h n _ => e a o h n, fun _ h => .inl h, fun _ _ h => h, fun _ _ _ => FnAt.mono fun a P h => e a _ h fun ps z => by cases z⟩
  refine ⟨s.len, s.nd, fun n a d h1 h2 => ?_, fun p hp => e _ _ (s.pin p hp) (s.ntb p hp).1, fun v d h => RD.mono m (s.rd v d h), t, fun a o h => e _ _ (s.cel a o h) fun ps z => (by cases z), fun v d h => RD.mono m (s.own v d h), s.ntb⟩
  have x := s.node n a d h1 h2
  refine x.mono m ?_
  obtain ⟨o, ho⟩ := x.some
  rw [ho, e a o ho]
  intro ps z
  subst z
  cases d with
  | lst xs => obtain ⟨vs, e, _⟩ := x; rw [ho] at e; cases e
  | dct ks xs => obtain ⟨vs, e, _⟩ := x; rw [ho] at e; cases e
  | dtt ks xs => obtain ⟨vs, e, _⟩ := x; rw [ho] at e; cases e
  | ins C ns xs => obtain ⟨dx, vs, e, _⟩ := x; rw [ho] at e; cases e
  | _ => exact x.elim
section
variable {M : Model} {A : Around} {E : Value → Shared → Prop} {s : Shared} {qual : Str} {params : Arguments} {body : Expr} {scope : Scope} {env : Env} {c P : Addr} {ps : Array Value} {pos : Pos} {firstLine : Nat} {mg : Str → Option Value} {clos : List (Str × Addr)} {Q : Value → Shared → Prop} {dV : Value}
theorem clo_tup {b : Bool} {its : List Value} {k : Value → Sem Value} (h : ∀ (ctv : Value) (h1 : Heap), (∀ a o, s.heap.get? a = some o → h1.get? a = some o) → s.heap.objs.size ≤ h1.objs.size → wpAny M A (k ctv) Q E { s with heap := h1 }) : wpAny M A (if b = true then (do let c ← (pure .none : Sem Value); k c) else (do let c ← newTextTuple its; k c)) Q E s := by
  cases b with
  | true => exact wpAny_bind (wpAny_pure (h _ _ (fun _ _ e => e) (Nat.le_refl _)))
  | false => exact wpAny_bind (wpAny_newTextTuple (h _ _ (fun _ _ e => Heap.get?_push_of_some _ e) (by rw [Heap.size_push]; omega)))
abbrev lamObj (qual : Str) (params : Arguments) (body : Expr) (scope : Scope) (clos : List (Str × Addr)) (dV pm cv ctv : Value) : Obj :=
  { cls := .type "function", data := .func { name := "<lambda>", qualname := qual, params := params, body := .expr body, scope := scope, globals := mainGlobals, closure := clos, defaults := dV, kwdefaults := .none, doc := .none, pyModule := pm, annotations := none, code := cv, closureTuple := ctv, builtins := builtinsNs } }
/-- the code object is new -/
theorem lam_miss (hcl : closureFor scope env = pure clos) (hg0 : env.globals = mainGlobals) (hg : s.heap.Ns mainGlobals mg) (hcode : env.code = .ref c) (C : PySem.W.CodeHd s.heap c P) (hP : s.heap.get? P = some { cls := .none, data := .fields ps }) (ht : TriplesOk ps.toList)
    (hnf : codeAmong pos ps.toList = none) (hgP : mainGlobals ≠ P) (hb : s.heap.BuiltinsAt mg P)
    (h : ∀ c' ctv h' tk, Heap.ExtBut P s.heap h' → s.heap.objs.size ≤ c' → c' < h'.objs.size → h'.CodeRec (.ref c') qual → h'.get? P = some { cls := .none, data := .fields (ps ++ #[rawInt pos.line, rawInt pos.col, .ref c']) } →
      Q (.ref h'.objs.size) { s with heap := h'.push (lamObj qual params body scope clos dV ((mg "__name__").getD .none) (.ref c') ctv), toks := tk }) :
    wpAny M A (makeTail "<lambda>" qual params (.expr body) scope env dV .none none pos firstLine) Q E s := by
  obtain ⟨bm, ob, g1, g2, g3, g4, g5, g6, g7, g8⟩ := hb
  unfold makeTail
  rw [hcl, hg0]
  refine wpAny_bind (wpAny_pure ?_)
  refine clo_tup fun ctv h1 k1 z1 => ?_
  have C1 := C.keeps k1
  refine wpAny_bind (wpAny_functionCodeX hcode (C1.code (k1 _ _ hP) ht) (C1.tab (k1 _ _ hP)) hnf fun c' h2 tk x2 z2 lt _ rec tb _ => ?_)
  have x : Heap.ExtBut P s.heap h2 := fun b o n e => x2 b o n (k1 b o e)
  have ng := (hg.keeps k1).extBut x2 hgP
  refine wpAny_bind (wpAny_builtinsFor ng g1 g2 (x _ _ g4 g5) g6 g7 g8 (wpAny_bind (wpAny_nsGet ng ?_)))
  exact wpAny_bind (wpAny_pure (wpAny_newObj_type (h c' ctv h2 tk x (Nat.le_trans z1 z2) lt rec tb.2) (by size_fits)))
/-- it is found in the table -/
theorem lam_hit {cv : Value} (hcl : closureFor scope env = pure clos) (hg0 : env.globals = mainGlobals) (hg : s.heap.Ns mainGlobals mg) (hcode : env.code = .ref c) (C : PySem.W.CodeHd s.heap c P) (hP : s.heap.get? P = some { cls := .none, data := .fields ps }) (ht : TriplesOk ps.toList)
    (hf : codeAmong pos ps.toList = some cv) (hb : s.heap.BuiltinsAt mg P)
    (h : ∀ (ctv : Value) (h' : Heap), (∀ b o, s.heap.get? b = some o → h'.get? b = some o) → s.heap.objs.size ≤ h'.objs.size → Q (.ref h'.objs.size) { s with heap := h'.push (lamObj qual params body scope clos dV ((mg "__name__").getD .none) cv ctv), toks := s.toks }) :
    wpAny M A (makeTail "<lambda>" qual params (.expr body) scope env dV .none none pos firstLine) Q E s := by
  obtain ⟨bm, ob, g1, g2, g3, g4, g5, g6, g7, g8⟩ := hb
  unfold makeTail
  rw [hcl, hg0]
  refine wpAny_bind (wpAny_pure ?_)
  refine clo_tup fun ctv h1 k1 z1 => ?_
  have C1 := C.keeps k1
  refine wpAny_bind (wpAny_functionCode_hit hcode (C1.code (k1 _ _ hP) ht) hf ?_)
  have ng := hg.keeps k1
  refine wpAny_bind (wpAny_builtinsFor ng g1 g2 (k1 _ _ g5) g6 g7 g8 (wpAny_bind (wpAny_nsGet ng ?_)))
  exact wpAny_bind (wpAny_pure (wpAny_newObj_type (h ctv h1 k1 z1) (by size_fits)))
end
section
variable {X : Cx} {pins : List (Addr × Obj)} {sg : L2.St} {H : Hp} {s : Shared}
theorem fnO_ne (l : LamI) (f : Addr) (cl : List (Str × Addr)) (c : Addr) (dV : Value) (ps : Array Value) : FnO l f cl c dV ≠ .tbl ps := fun z => by
  unfold FnO at z
  cases z
theorem extN_new {H : Hp} {a : Addr} {o : HO} (h : H a = none) : LamX.ExtN H (upd H a o) := fun b u e _ => by rw [upd_ne (ne_of_none e h)]; exact e
/-- a new function object is known from now on -/
theorem inv_lam {l : LamI} {cl : List (Str × Addr)} {c : Addr} {dV pm ctv : Value} {h' : Heap} {t' : Nat} (I : Inv X pins sg H { s with heap := h' }) :
    Inv X pins sg (upd H h'.objs.size (FnO l h'.objs.size cl c dV)) { s with heap := h'.push (lamObj l.qual l.params l.body l.scope (cloFrom cl l.scope.names []) dV pm (.ref c) ctv), toks := t' } :=
  I.laid (s := { s with heap := h' }) (a := h'.objs.size) (fun b u e => Heap.get?_push_of_some _ e) (Nat.le_refl _)
    ⟨⟨pm, ctv, Heap.get?_push_size _ rfl⟩, ⟨_, Heap.get?_push_size _ rfl⟩, fun h1 h2 ⟨p, t, z⟩ st => ⟨p, t, st _ z⟩⟩
/-- the making's second half -/
theorem lam_make {l : LamI} {T : List (Addr × Str)} {c P : Addr} {pos : Pos} {E : Value → Shared → Prop} {Q : Value → Shared → Prop} {dV : Value} (I : Inv X pins sg H s) (TB : LamX.TabB X.base X.mg c P) (hcode : X.env.code = .ref c) (hm : (P, l.qual) ∈ T) (hu : ∀ p ∈ T, p.1 = P → p.2 = l.qual)
    (hT : LamX.Tabs T H) (hfree : ∀ y ∈ l.scope.names, y.2 = .free → ∃ c, X.env.cells.lookup y.1 = some c) (hd : (dV = .none ∧ l.par = none) ∨ ∃ D, dV = .ref D ∧ H D = some (DflO D) ∧ l.par ≠ none)
    (h : ∀ f H1 s', Inv X pins sg H1 s' → LamX.ExtN H H1 → LamX.Tabs T H1 → FnAt H1 l X.env.cells f → Q (.ref f) s') :
    wpAny (model X.prog X.w) X.A (makeTail "<lambda>" l.qual l.params (.expr l.body) l.scope X.env dV .none none pos pos.line) Q E s := by
  obtain ⟨ps, hP, ht, ha⟩ := hT _ hm
  have bP : s.heap.BuiltinsAt X.mg P := TB.bm.keeps I.bk
  have hP' : s.heap.get? P = some { cls := .none, data := .fields ps } := I.hok P _ hP
  have done : ∀ {H0 : Hp} {h0 : Heap} {c0 : Addr} {ctv : Value} {tk : Nat}, Inv X pins sg H0 { s with heap := h0 } → LamX.ExtN H H0 → LamX.Tabs T H0 → H0 c0 = some (LamX.CodeO c0 l.qual) →
      Q (.ref h0.objs.size) { s with heap := h0.push (lamObj l.qual l.params l.body l.scope (cloFrom X.env.cells l.scope.names []) dV ((X.mg "__name__").getD .none) (.ref c0) ctv), toks := tk } := by
    intro H0 h0 c0 ctv tk J e0 t0 q0
    have nF : H0 h0.objs.size = none := J.hok.fresh (Nat.le_refl _)
    have eN := extN_new (o := FnO l h0.objs.size X.env.cells c0 dV) nF
    refine h _ _ _ (inv_lam J) (e0.trans eN) (fun p hp => ?_) ⟨c0, dV, upd_same, eN _ _ q0 LamX.codeO_ne, ?_⟩
    · obtain ⟨ps', a1, a2, a3⟩ := t0 p hp
      refine ⟨ps', by rw [upd_ne (ne_of_none a1 nF)]; exact a1, a2, fun p' cv hcv => ?_⟩
      obtain ⟨c1, e1, e2⟩ := a3 p' cv hcv
      exact ⟨c1, e1, eN _ _ e2 LamX.codeO_ne⟩
    · rcases hd with hd | ⟨D, e, hD, hn⟩
      · exact .inl hd
      · exact .inr ⟨D, e, (e0.trans eN) _ _ hD (fun ps z => by cases z), hn⟩
  cases hc : codeAmong pos ps.toList with
  | none =>
    refine lam_miss (closure_ok hfree) I.ok.glob (I.mod.glob.keeps I.bk) hcode (TB.code.keeps I.bk) hP' ht hc TB.gP bP fun c' ctv h' tk hx hge hlt hrec htb => ?_
    obtain ⟨c2, oc, vs, t, e2, hoc, hd', hv⟩ := hrec
    cases e2
    have nC : H c' = none := I.hok.fresh hge
    have I1 := LamX.inv_table (t' := s.toks) (more := #[rawInt pos.line, rawInt pos.col, .ref c']) (h' := h') I hP (fun b o hb e => hx b o hb e) htb hge ⟨oc, vs, t, hoc, hd', hv⟩
    have hE : LamX.ExtN H (upd (upd H P (.tbl (ps ++ #[rawInt pos.line, rawInt pos.col, .ref c']))) c' (LamX.CodeO c' l.qual)) := fun b o e n => by
      have hb : b ≠ P := fun z => by
        subst z
        exact n ps (Option.some.inj (e.symm.trans hP))
      rw [upd_ne (ne_of_none e nC), upd_ne hb]
      exact e
    refine done I1 hE (fun p hp => ?_) upd_same
    by_cases hb : p.1 = P
    · rw [hu p hp hb, hb]
      refine ⟨ps ++ #[rawInt pos.line, rawInt pos.col, .ref c'], by rw [upd_ne (ne_of_none hP nC), upd_same], by rw [Array.toList_append]; exact PySem.TriplesOk_snoc _ _ _ _ ht, fun p' cv hcv => ?_⟩
      rw [Array.toList_append] at hcv
      rcases LamX.among_app _ ht hcv with z | z
      · obtain ⟨c0, e1, e2⟩ := ha p' cv z
        exact ⟨c0, e1, hE _ _ e2 LamX.codeO_ne⟩
      · exact ⟨c', z, upd_same⟩
    · obtain ⟨ps', a1, a2, a3⟩ := hT p hp
      refine ⟨ps', by rw [upd_ne (ne_of_none a1 nC), upd_ne hb]; exact a1, a2, fun p' cv hcv => ?_⟩
      obtain ⟨c0, e1, e2⟩ := a3 p' cv hcv
      exact ⟨c0, e1, hE _ _ e2 LamX.codeO_ne⟩
  | some cv =>
    obtain ⟨c', e, hco⟩ := ha pos cv hc
    subst e
    refine lam_hit (closure_ok hfree) I.ok.glob (I.mod.glob.keeps I.bk) hcode (TB.code.keeps I.bk) hP' ht hc bP fun ctv h' hx hsz => ?_
    exact done (I.kept (t' := s.toks) hx) (LamX.ExtN.refl H) hT hco
end
def uLam (l : LamI) (cl : List (Str × Addr)) : UE := fun _ S K _ => K (.fn l cl) S
/-- what is asked of a lambda's text -/
structure LamT (l : LamI) (sc : Scope) : Prop where
  free : ∀ y ∈ l.scope.names, y.2 = .free → sc.names.lookup y.1 = some .cell ∨ sc.names.lookup y.1 = some .free
  dfl : (l.par = none ∧ l.params.defaults = []) ∨ ∃ j p, l.par ≠ none ∧ l.params.defaults = [.Constant (.int 0) j p]
  kw : l.params.kw_defaults = [] ∧ l.params.kwonlyargs = []
theorem evalEachOpt_nil {env : Env} : evalEachOpt [] env = [] := rfl
theorem dfl_of (p : Arguments) (env : Env) : defaultsOf p env = (evalEach p.defaults env, evalEachOpt p.kw_defaults env) := by
  cases p
  rfl
theorem de_lam [Tabl] {X : Cx} {W : WX} {l : LamI} {cl : List (Str × Addr)} {c P : Addr} {pos : Pos} (hcl : X.env.cells = cl) (TB : LamX.TabB X.base X.mg c P) (hcode : X.env.code = .ref c) (hm : (P, l.qual) ∈ Tabl.tabs) (hu : ∀ p ∈ Tabl.tabs, p.1 = P → p.2 = l.qual) (hq : X.env.qual ++ "<lambda>" = l.qual) (hl : LamT l X.env.scope) :
    DE X W (.Lambda l.params l.body l.scope pos) (tOf W (uLam l cl)) (uLam l cl) := de_of fun pins s sg H Q dl L S T K Xk I he hs h hq' _ => by
  subst hcl
  obtain ⟨rho, x⟩ := hs
  have hfr : ∀ y ∈ l.scope.names, y.2 = .free → ∃ c, X.env.cells.lookup y.1 = some c := fun y hy e => (hl.free y hy e).elim (fun z => I.ok.has _ (.inl z)) fun z => I.ok.has _ (.inr z)
  have fin : ∀ {H0 : Hp} {s0 : Shared} {dV : Value}, Inv X pins sg H0 s0 → LamX.ExtN H H0 → LamX.Tabs Tabl.tabs H0 → ((dV = .none ∧ l.par = none) ∨ ∃ D, dV = .ref D ∧ H0 D = some (DflO D) ∧ l.par ≠ none) →
      wpAny (model X.prog X.w) X.A (makeTail "<lambda>" l.qual l.params (.expr l.body) l.scope X.env dV .none none pos pos.line) (EP X pins sg Q) X.xe s0 := by
    intro H0 s0 dV J e0 t0 hd
    refine lam_make J TB hcode hm hu t0 hfr hd fun f H1 s' J1 e1 t1 fa => ?_
    have y := (x.extN e0 t0).extN e1 t1
    refine ⟨.ref f, H1, J1, rfl, hq' (.ref f) (.fn l X.env.cells) (Ladd L (.ref f) (.fn l X.env.cells)) H1 S Ladd.le Ladd.here ⟨rho, y.more fun v d q => ?_⟩ h⟩
    rcases q with q | ⟨rfl, rfl⟩
    · exact .inl q
    · exact .inr (by simp only [RD]; exact ⟨f, rfl, fa⟩)
  rw [arm_eval_Lambda, dfl_of, hl.kw.1, hq]
  show wpAny _ _ (do let dv ← evalAll (evalEach l.params.defaults X.env); let kdv ← holding dv (evalAllOpt (evalEachOpt [] X.env)); makeFunction "<lambda>" l.qual l.params (.expr l.body) l.scope X.env dv kdv [] pos pos.line) _ _ _
  rcases hl.dfl with ⟨h0, h1⟩ | ⟨j0, p0, h0, h1⟩
  · rw [h1]
    refine wpAny_bind (wpAny_pure (wpAny_bind (wpAny_holding (wpAny_pure ?_))))
    rw [makeFunction_eq, hl.kw.2]
    simp only [List.zip_nil_right, List.filterMap_nil, List.isEmpty_nil, if_true, pure_bind]
    exact fin I (LamX.ExtN.refl H) x.tab (.inl ⟨rfl, h0⟩)
  · rw [h1]
    refine wpAny_bind (wpAny_evalAll_consts _ _ _ (fun e he => by rw [List.mem_singleton.mp he]; rfl) fun vs tk hv => wpAny_bind (wpAny_holding (wpAny_pure ?_)))
    match vs, hv with
    | [v], hv =>
      obtain ⟨⟨t0, rfl⟩, _⟩ := hv
      rw [makeFunction_eq, hl.kw.2]
      simp only [List.zip_nil_right, List.filterMap_nil, List.isEmpty_nil, if_true, pure_bind]
      refine wpAny_bind (wpAny_newTextTuple ?_)
      have J : Inv X pins sg H { s with toks := tk } := I.kept (h' := s.heap) fun _ _ e => e
      have nD : H s.heap.objs.size = none := I.hok.fresh (Nat.le_refl _)
      have J2 : Inv X pins sg (upd H s.heap.objs.size (DflO s.heap.objs.size)) { s with heap := s.heap.push { cls := .type "tuple", data := .seq #[.int 0 t0] }, toks := tk } :=
        J.laid (a := s.heap.objs.size) (fun b u e => Heap.get?_push_of_some _ e) (Nat.le_refl _) ⟨⟨t0, Heap.get?_push_size _ rfl⟩, ⟨_, Heap.get?_push_size _ rfl⟩, fun h1 h2 ⟨u, z⟩ st => ⟨u, st _ z⟩⟩
      exact fin J2 (extN_new nD) ((Mild.new nD).tabs x.tab) (.inr ⟨_, rfl, upd_same, h0⟩)
end DL
/-! DY2: cells of a frame that waits are known, and forgotten again. -/
namespace DL
open PySem PySem.Spec L2 PyProof.Rows
abbrev Cels := List (Addr × Obj)
def strip (cs : Cels) (H : Hp) : Hp := fun a => if (cs.lookup a).isSome = true then none else H a
def addc (cs : Cels) (H : Hp) : Hp := fun a => match cs.lookup a with
  | some o => some (CelO a o)
  | none => H a
/-- they are cells -/
def CelsOk (cs : Cels) : Prop := ∀ a o, cs.lookup a = some o → ∃ u, o.data = .cell u
section
variable {P : Program} {w : World} {H H1 H2 : Hp} {h h1 : Heap} {cs : Cels} {fs ex : List Addr}
theorem strip_in {a : Addr} {o : Obj} (e : cs.lookup a = some o) : strip cs H a = none := by
  unfold strip
  rw [e]
  rfl
theorem strip_out {a : Addr} (e : cs.lookup a = none) : strip cs H a = H a := by
  unfold strip
  rw [e]
  rfl
theorem addc_in {a : Addr} {o : Obj} (e : cs.lookup a = some o) : addc cs H a = some (CelO a o) := by
  unfold addc
  rw [e]
theorem addc_out {a : Addr} (e : cs.lookup a = none) : addc cs H a = H a := by
  unfold addc
  rw [e]
/-- what was tracked is no cell of theirs -/
theorem out_of {a : Addr} {o : HO} (hn : ∀ a o, cs.lookup a = some o → H a = none) (e : H a = some o) : cs.lookup a = none := by
  cases q : cs.lookup a with
  | none => rfl
  | some x => rw [hn a x q] at e; cases e
theorem addc_keep {a : Addr} {o : HO} (hn : ∀ a o, cs.lookup a = some o → H a = none) (e : H a = some o) : addc cs H a = some o := by rw [addc_out (out_of hn e)]; exact e
theorem addc_none {a : Addr} (e : addc cs H a = none) : H a = none := by
  cases q : cs.lookup a with
  | none => rw [addc_out q] at e; exact e
  | some x => rw [addc_in q] at e; cases e
theorem out_ext {a : Addr} {o : HO} (hc : ∀ a o, cs.lookup a = some o → H a = some (CelO a o)) (e : H a = some o) (ne : ∀ Q, o ≠ .ext Q) : cs.lookup a = none := by
  cases q : cs.lookup a with
  | none => rfl
  | some x =>
    rw [hc a x q] at e
    injection e with e
    exact (ne _ e.symm).elim
theorem strip_keep {a : Addr} {o : HO} (hc : ∀ a o, cs.lookup a = some o → H a = some (CelO a o)) (e : H a = some o) (ne : ∀ Q, o ≠ .ext Q) : strip cs H a = some o := by rw [strip_out (out_ext hc e ne)]; exact e
theorem HOk.addc (x : HOk P w H h) (hc : ∀ a o, cs.lookup a = some o → h.get? a = some o ∧ H a = none) : HOk P w (addc cs H) h := fun b u e => by
  cases q : cs.lookup b with
  | some o =>
    rw [addc_in q] at e
    injection e with e
    subst e
    exact ⟨(hc b o q).1, ⟨_, (hc b o q).1⟩, fun h1 h2 z st => st _ z⟩
  | none =>
    rw [addc_out q] at e
    exact (x b u e).stay (fun _ _ _ z => z) (fun c z => addc_keep (fun a o e => (hc a o e).2) z) fun c xs z => addc_keep (fun a o e => (hc a o e).2) z
theorem HOk.strip (x : HOk P w H h) (hc : ∀ a o, cs.lookup a = some o → H a = some (CelO a o)) : HOk P w (strip cs H) h := fun b u e => by
  cases q : cs.lookup b with
  | some o => rw [strip_in q] at e; cases e
  | none =>
    rw [strip_out q] at e
    exact (x b u e).stay (fun _ _ _ z => z) (fun c z => strip_keep hc z fun _ y => by cases y) fun c xs z => strip_keep hc z fun _ y => by cases y
theorem celO_get (x : HOk P w H h) {a : Addr} {o : Obj} (e : H a = some (CelO a o)) : h.get? a = some o := (x a _ e).1
/-- behind a call that ran with the cells known -/
theorem Un.back (u : Un fs ex (addc cs H) H2 h h1) (h0 : ∀ a o, cs.lookup a = some o → h.get? a = some o ∧ H a = none) (x : HOk P w H2 h1) (hc : ∀ a o, cs.lookup a = some o → H2 a = some (CelO a o)) : Un fs ex H (strip cs H2) h h1 := by
  have hn : ∀ a o, cs.lookup a = some o → H a = none := fun a o e => (h0 a o e).2
  refine ⟨fun b o e n f y => ?_, fun b o e n f y => ?_, fun b o e n y => ?_, u.there, fun b xs e => ?_, fun b o xs e => ?_, fun b ps e => ?_⟩
  · cases q : cs.lookup b with
    | some o' =>
      have := (h0 b o' q).1
      rw [e] at this
      injection this with this
      subst this
      exact celO_get x (hc b o q)
    | none => exact u.keep b o e (by rw [addc_out q]; exact n) f y
  · cases q : cs.lookup b with
    | some o' =>
      have := (h0 b o' q).1
      rw [e] at this
      injection this with this
      subst this
      exact ⟨o.slots, celO_get x (hc b o q)⟩
    | none => exact u.slot b o e (by rw [addc_out q]; exact n) f y
  · cases q : cs.lookup b with
    | some o' => exact strip_in q
    | none => rw [strip_out q]; exact u.free b o e (by rw [addc_out q]; exact n) y
  · exact strip_keep hc (u.tups b xs (addc_keep hn e)) fun _ z => by cases z
  · exact strip_keep hc (u.frzs b o xs (addc_keep hn e)) fun _ z => by cases z
  · obtain ⟨m, z⟩ := u.tbls b ps (addc_keep hn e)
    exact ⟨m, strip_keep hc z fun _ z => by cases z⟩
/-- behind a call that ran with the cells forgotten -/
theorem un_gone (u : Un fs [] (strip cs H) H1 h h1) (hc : ∀ a o, cs.lookup a = some o → H a = some (CelO a o)) (x : HOk P w H h) (hf : ∀ b ∈ fs, H b = none) :
    (∀ a o, cs.lookup a = some o → h1.get? a = some o ∧ H1 a = none) ∧ Un fs [] H (addc cs H1) h h1 := by
  have c1 : ∀ a o, cs.lookup a = some o → h1.get? a = some o ∧ H1 a = none := fun a o e => by
    have g := celO_get x (hc a o e)
    have nf : a ∉ fs := fun z => by have := hf a z; rw [hc a o e] at this; cases this
    exact ⟨u.keep a o g (strip_in e) nf (by simp), u.free a o g (strip_in e) (by simp)⟩
  have lk : ∀ {b}, H b = none → cs.lookup b = none := fun {b} n => by
    cases q : cs.lookup b with
    | none => rfl
    | some o => rw [hc b o q] at n; cases n
  have sn : ∀ {b}, H b = none → strip cs H b = none := fun {b} n => by rw [strip_out (lk n)]; exact n
  refine ⟨c1, fun b o e n f y => u.keep b o e (sn n) f y, fun b o e n f y => u.slot b o e (sn n) f y, fun b o e n y => ?_, u.there, fun b xs e => ?_, fun b o xs e => ?_, fun b ps e => ?_⟩
  · rw [addc_out (lk n)]; exact u.free b o e (sn n) y
  · exact addc_keep (fun a o e => (c1 a o e).2) (u.tups b xs (strip_keep hc e fun _ z => by cases z))
  · exact addc_keep (fun a o e => (c1 a o e).2) (u.frzs b o xs (strip_keep hc e fun _ z => by cases z))
  · obtain ⟨m, z⟩ := u.tbls b ps (strip_keep hc e fun _ z => by cases z)
    exact ⟨m, addc_keep (fun a o e => (c1 a o e).2) z⟩
theorem cx_gone {outer : List Env} {s s' : Shared} {E : XK} {e : Value} (hc : ∀ a o, cs.lookup a = some o → H a = some (CelO a o)) (x : HOk P w H s.heap) (hf : ∀ b ∈ frs outer, H b = none) (c : L2.CX P w outer (strip cs H) s (fun cls d H1 => (∀ a o, cs.lookup a = some o → H1 a = none) → E cls d (addc cs H1)) e s') :
    L2.CX P w outer H s E e s' := by
  obtain ⟨a, B, H1, cls, d, e1, fl, hok, u, na, os, ag, q⟩ := c
  have c1 : ∀ a o, cs.lookup a = some o → B.get? a = some o ∧ H1 a = none := fun a o e => by
    have g := celO_get x (hc a o e)
    have nf : a ∉ frs outer := fun z => by have := hf a z; rw [hc a o e] at this; cases this
    exact ⟨u.keep a o g (strip_in e) nf, u.free a o g (strip_in e)⟩
  have lk : ∀ {b}, H b = none → cs.lookup b = none := fun {b} n => by
    cases q : cs.lookup b with
    | none => rfl
    | some o => rw [hc b o q] at n; cases n
  have sn : ∀ {b}, H b = none → strip cs H b = none := fun {b} n => by rw [strip_out (lk n)]; exact n
  refine ⟨a, B, addc cs H1, cls, d, e1, fl, HOk.addc hok c1, ⟨fun b o e n f => u.keep b o e (sn n) f, u.slot, fun b o e n => ?_, u.there, fun b xs e => ?_, fun b o xs e => ?_, fun b ps e => ?_⟩, ?_, os, ag, q fun a o e => (c1 a o e).2⟩
  · rw [addc_out (lk n)]; exact u.free b o e (sn n)
  · exact addc_keep (fun a o e => (c1 a o e).2) (u.tups b xs (strip_keep hc e fun _ z => by cases z))
  · exact addc_keep (fun a o e => (c1 a o e).2) (u.frzs b o xs (strip_keep hc e fun _ z => by cases z))
  · obtain ⟨m, z⟩ := u.tbls b ps (strip_keep hc e fun _ z => by cases z)
    exact ⟨m, addc_keep (fun a o e => (c1 a o e).2) z⟩
  · cases q : cs.lookup a with
    | none => rw [addc_out q]; exact na
    | some o =>
      have := (c1 a o q).1
      rw [fl.2.1] at this
      cases this
end
/-! ### the state -/
/-- without cells; with them -/
abbrev bas (tb : List (Addr × Str)) : Tabl := ⟨tb, [], fun _ _ => False⟩
abbrev wth (tb : List (Addr × Str)) (cs : Cels) (ow : LL) : Tabl := ⟨tb, cs, ow⟩
section
variable {P : Program} {w : World} {H : Hp} {h : Heap} {cs : Cels} {L : LL} {S : Store} {T : List (Addr × HO)} {tb : List (Addr × Str)}
theorem SR.into (hs : @SR (bas tb) H L S T) (hn : ∀ a o, cs.lookup a = some o → H a = none) {ow : LL} (ho : Lle ow L) : @SR (wth tb cs ow) (addc cs H) L S T := by
  obtain ⟨rho, ⟨len, nd, node, pin, rd, tab, cel, own, ntb⟩⟩ := hs
  have md : Mild H (addc cs H) := fun b o e _ => addc_keep hn e
  have m : Mono H (addc cs H) (rho ++ T.map (·.1)) (rho ++ T.map (·.1)) rho rho := ⟨fun a o _ e _ _ => addc_keep hn e, fun _ h => .inl h, fun _ _ h => h, fun _ _ _ => FnAt.mono md.ext⟩
  refine Exists.intro rho (@SRx.mk (wth tb cs ow) _ _ _ _ _ len nd (fun n a d h1 h2 => ?_) (fun p hp => addc_keep hn (pin p hp)) (fun v d h => RD.mono m (rd v d h)) (md.tabs tab) (fun a o e => addc_in e) (fun v d h => RD.mono m (rd v d (ho v d h))) ntb)
  have y := node n a d h1 h2
  obtain ⟨o, e⟩ := y.some
  exact y.mono m (by rw [addc_keep hn e]; exact e)
/-- a function's object, its code object, its defaults are no cells -/
theorem fnAt_strip {l : LamI} {cl : List (Str × Addr)} {f : Addr} (x : HOk P w H h) (hc : ∀ a o, cs.lookup a = some o → H a = some (CelO a o)) (co : CelsOk cs) (k : FnAt H l cl f) : FnAt (strip cs H) l cl f := by
  have key : ∀ {a : Addr} {φ : Heap → Prop}, H a = some (.ext φ) → (∀ o, h.get? a = some o → φ h → ∀ u, o.data ≠ .cell u) → strip cs H a = some (.ext φ) := fun {a φ} e ne => by
    cases q : cs.lookup a with
    | none => rw [strip_out q]; exact e
    | some o =>
      obtain ⟨u, hu⟩ := co a o q
      exact (ne o (celO_get x (hc a o q)) (x a _ e).1 u hu).elim
  obtain ⟨c, dV, h1, h2, h3⟩ := k
  refine ⟨c, dV, key h1 ?_, key h2 ?_, ?_⟩
  · rintro o e ⟨pm, ctv, z⟩ u hu
    rw [e] at z
    injection z with z
    subst z
    cases hu
  · rintro o e ⟨oc, vs, t, z, z2, z3⟩ u hu
    rw [e] at z
    injection z with z
    subst z
    rw [z2] at hu
    cases hu
  · rcases h3 with h3 | ⟨D, e, h3, h4⟩
    · exact .inl h3
    · refine .inr ⟨D, e, key h3 ?_, h4⟩
      rintro o e ⟨v, z⟩ u hu
      rw [e] at z
      injection z with z
      subst z
      cases hu
theorem codeO_strip {c : Addr} {q : Str} (x : HOk P w H h) (hc : ∀ a o, cs.lookup a = some o → H a = some (CelO a o)) (co : CelsOk cs) (k : H c = some (LamX.CodeO c q)) : strip cs H c = some (LamX.CodeO c q) := by
  cases e : cs.lookup c with
  | none => rw [strip_out e]; exact k
  | some o =>
    obtain ⟨u, hu⟩ := co c o e
    obtain ⟨⟨oc, vs, t, z, z2, z3⟩, _⟩ := x c _ k
    rw [celO_get x (hc c o e)] at z
    injection z with z
    subst z
    rw [z2] at hu
    cases hu
theorem SR.back {ow : LL} (hs : @SR (wth tb cs ow) H L S T) (x0 : HOk P w H h) (co : CelsOk cs) : @SR (bas tb) (strip cs H) L S T := by
  obtain ⟨rho, ⟨len, nd, node, pin, rd, tab, cel, own, ntb⟩⟩ := hs
  have hc : ∀ a o, cs.lookup a = some o → H a = some (CelO a o) := cel
  have m : Mono H (strip cs H) (rho ++ T.map (·.1)) (rho ++ T.map (·.1)) rho rho := ⟨fun a o _ e _ ne => strip_keep hc e ne, fun _ h => .inl h, fun _ _ h => h, fun _ _ _ => fnAt_strip x0 hc co⟩
  refine Exists.intro rho (@SRx.mk (bas tb) _ _ _ _ _ len nd (fun n a d h1 h2 => ?_) (fun p hp => strip_keep hc (pin p hp) (ntb p hp).2) (fun v d h => RD.mono m (rd v d h)) (fun p hp => ?_) (fun a o e => (by cases e)) (fun v d h => h.elim) ntb)
  · have y := node n a d h1 h2
    refine y.mono m ?_
    cases d with
    | lst xs => obtain ⟨vs, e, _⟩ := y; rw [e, strip_keep hc e fun _ z => by cases z]
    | dct ks xs => obtain ⟨vs, e, _⟩ := y; rw [e, strip_keep hc e fun _ z => by cases z]
    | dtt ks xs => obtain ⟨vs, e, _⟩ := y; rw [e, strip_keep hc e fun _ z => by cases z]
    | ins C ns xs => obtain ⟨dx, vs, e, _⟩ := y; rw [e, strip_keep hc e fun _ z => by cases z]
    | _ => exact y.elim
  · obtain ⟨ps, a1, a2, a3⟩ := tab p hp
    refine ⟨ps, strip_keep hc a1 (fun _ z => by cases z), a2, fun p' cv hcv => ?_⟩
    obtain ⟨c0, e1, e2⟩ := a3 p' cv hcv
    exact ⟨c0, e1, codeO_strip x0 hc co e2⟩
end
end DL
/-! DY3: a lambda is called, in a def that got it. -/
namespace DL
open PySem PySem.Spec L2 PyProof.Rows NdefX
abbrev nfOf (l : LamI) (cl : List (Str × Addr)) (c : Addr) : NF := ⟨"<lambda>", l.qual, l.params, [], l.scope, cloFrom cl l.scope.names [], c⟩
def parNs (l : LamI) : List Str := match l.par with
  | none => []
  | some a => [a]
def parDs (l : LamI) : List Dat := match l.par with
  | none => []
  | some _ => [.int 0]
/-- the lambda's names at its start -/
def startL (l : LamI) (N : List Str) (ds : List (Option Dat)) : Env' := (parDs l).map some ++ (ds ++ List.replicate (N.length - (parDs l).length - ds.length) none)
/-- what is asked of the lambda's text -/
structure LamK (l : LamI) (N fr : List Str) : Prop where
  sc : NScope N (parNs l) fr l.scope
  b0 : l.par = none → ∀ cl c pm ctv, bindArgs (lamFd l cl c .none pm ctv) ⟨[], []⟩ = pure []
  b1 : ∀ a, l.par = some a → ∀ cl c D pm ctv, ∃ k, bindArgs (lamFd l cl c (.ref D) pm ctv) ⟨[], []⟩ = seqItems? (.ref D) >>= k ∧ ∀ u, k (some #[u]) = pure [(a, u)]
/-- what its cells hold -/
structure Capt (cs : Cels) (ow : LL) (l : LamI) (cl : List (Str × Addr)) (fr : List Str) (ds : List (Option Dat)) : Prop where
  len : ds.length = fr.length
  all : ∀ y c, (cloFrom cl l.scope.names []).lookup y = some c → ∃ o u, cs.lookup c = some o ∧ o.data = .cell u
  inj : ∀ x y c, (cloFrom cl l.scope.names []).lookup x = some c → (cloFrom cl l.scope.names []).lookup y = some c → x = y
  has : ∀ (i : Nat) y, fr[i]? = some y → ∃ c, (cloFrom cl l.scope.names []).lookup y = some c ∧ ∀ d, ds[i]? = some (some d) → ∃ o u v, cs.lookup c = some o ∧ o.data = .cell (some u) ∧ RelV v u ∧ ow v d
theorem Capt.ws {cs : Cels} {ow : LL} {l : LamI} {cl : List (Str × Addr)} {fr : List Str} {ds : List (Option Dat)} (C : Capt cs ow l cl fr ds) : ∃ ws : List (Option V), ws.length = fr.length ∧ (∀ (i : Nat) d, ds[i]? = some (some d) → ∃ v, ws[i]? = some (some v) ∧ ow v d) ∧
    ∀ (i : Nat) y, fr[i]? = some y → ∃ c, (cloFrom cl l.scope.names []).lookup y = some c ∧ ∀ v, ws[i]? = some (some v) → ∃ o u, cs.lookup c = some o ∧ o.data = .cell (some u) ∧ RelV v u := by
  classical
  let P : Nat → V → Prop := fun i v => ∃ y c d o u, fr[i]? = some y ∧ (cloFrom cl l.scope.names []).lookup y = some c ∧ ds[i]? = some (some d) ∧ cs.lookup c = some o ∧ o.data = .cell (some u) ∧ RelV v u ∧ ow v d
  refine ⟨(List.range fr.length).map fun i => if h : ∃ v, P i v then some h.choose else none, by rw [List.length_map, List.length_range], fun i d e => ?_, fun i y e => ?_⟩
  · have hi : i < fr.length := by rw [← C.len]; exact (List.getElem?_eq_some_iff.mp e).1
    obtain ⟨c, hc, hd⟩ := C.has i fr[i] (List.getElem?_eq_getElem hi)
    obtain ⟨o, u, v, h1, h2, h3, h4⟩ := hd d e
    have hP : ∃ v, P i v := ⟨v, fr[i], c, d, o, u, List.getElem?_eq_getElem hi, hc, e, h1, h2, h3, h4⟩
    refine ⟨hP.choose, ?_, ?_⟩
    · rw [List.getElem?_map, List.getElem?_range hi, Option.map_some, dif_pos hP]
    · obtain ⟨y, c, d', o, u, _, _, q, _, _, _, r⟩ := hP.choose_spec
      rw [e] at q
      injection q with q
      injection q with q
      subst q
      exact r
  · obtain ⟨c, hc, hd⟩ := C.has i y e
    have hi : i < fr.length := (List.getElem?_eq_some_iff.mp e).1
    refine ⟨c, hc, fun v q => ?_⟩
    rw [List.getElem?_map, List.getElem?_range hi, Option.map_some] at q
    injection q with q
    by_cases hP : ∃ v, P i v
    · rw [dif_pos hP] at q
      injection q with q
      subst q
      obtain ⟨y', c', d', o, u, e1, e2, _, e3, e4, e5, _⟩ := hP.choose_spec
      rw [e] at e1
      injection e1 with e1
      subst e1
      rw [hc] at e2
      injection e2 with e2
      subst e2
      exact ⟨o, u, e3, e4, e5⟩
    · rw [dif_neg hP] at q
      cases q
/-- a reading of what a lambda computes, its captured data put in -/
abbrev UB := Store → KE → KX → Prop
/-- x(), x at the slot i -/
def uAct (B : LamI → List (Str × Addr) → Option UB) (i : Nat) : UE := fun dl S K X => match dl[i]? with
  | some (some (.fn l cl)) => ∃ b, B l cl = some b ∧ b S K X
  | _ => False
theorem get_start {l : LamI} {N : List Str} {ds : List (Option Dat)} {ws : List (Option V)} {L : LL} {ow : LL} (hN : N.length = N.length) (h1 : ws.length = ds.length) (h2 : ∀ (i : Nat) d, ds[i]? = some (some d) → ∃ v, ws[i]? = some (some v) ∧ ow v d) (hL : Lle ow L) (h0 : L (.int 0) (.int 0)) :
    EnvIn (startF N (parDs l |>.map fun _ => V.int 0) ws) (startL l N ds) L := by
  have hp : parDs l = [] ∨ parDs l = [.int 0] := by
    unfold parDs
    split
    · exact .inl rfl
    · exact .inr rfl
  refine ⟨by simp [startF, startL, h1], fun i d e => ?_⟩
  have key : ∀ {j : Nat} {n : Nat}, (ds ++ List.replicate n none)[j]? = some (some d) → ∃ v, (ws ++ List.replicate n none)[j]? = some (some v) ∧ L v d := fun {j n} e => by
    by_cases hj : j < ds.length
    · rw [List.getElem?_append_left hj] at e
      obtain ⟨v, a, b⟩ := h2 j d e
      exact ⟨v, by rw [List.getElem?_append_left (by rw [h1]; exact hj)]; exact a, hL _ _ b⟩
    · rw [List.getElem?_append_right (Nat.le_of_not_lt hj), List.getElem?_replicate] at e
      split at e <;> cases e
  unfold startL at e
  unfold startF
  rcases hp with hp | hp
  · rw [hp] at e ⊢
    simp only [List.map_nil, List.nil_append, List.length_nil, Nat.sub_zero] at e ⊢
    rw [h1]
    exact key e
  · rw [hp] at e ⊢
    simp only [List.map_cons, List.map_nil, List.length_cons, List.length_nil, List.cons_append, List.nil_append] at e ⊢
    rw [h1]
    cases i with
    | zero =>
      simp at e
      subst e
      exact ⟨.int 0, by simp, h0⟩
    | succ j =>
      rw [List.getElem?_cons_succ] at e ⊢
      exact key e
end DL
/-! DY4: the rule for x(), x a lambda that a def got. -/
namespace DL
open PySem PySem.Spec L2 PyProof.Rows NdefX
section
variable {P : Program} {w : World} {K : PySem.W.Frag} {mg : Str → Option Value} {base : Heap} {cs : Cels} {H : Hp} {s : Shared} {A : Around} {outer : List Env}
theorem Env0.strip (e0 : Env0 P w K mg base A outer s H) (hc : ∀ a o, cs.lookup a = some o → H a = some (CelO a o)) : Env0 P w K mg base A outer s (strip cs H) := by
  have sn : ∀ {b}, H b = none → DL.strip cs H b = none := fun {b} n => by
    cases q : cs.lookup b with
    | some o => exact strip_in q
    | none => rw [strip_out q]; exact n
  exact ⟨e0.frames, e0.mod, fun b o e => ⟨(e0.bs b o e).1, sn (e0.bs b o e).2⟩, e0.bsz, e0.funs, fun b hb => sn (e0.frf b hb), HOk.strip e0.hok hc, e0.bare⟩
theorem capt_at {ow : LL} {l : LamI} {cl : List (Str × Addr)} {fr : List Str} {ds : List (Option Dat)} {ws : List (Option V)} (C : Capt cs ow l cl fr ds) (x : HOk P w H s.heap) (hc : ∀ a o, cs.lookup a = some o → H a = some (CelO a o)) (h1 : ws.length = fr.length)
    (h3 : ∀ (i : Nat) y, fr[i]? = some y → ∃ c, (cloFrom cl l.scope.names []).lookup y = some c ∧ ∀ v, ws[i]? = some (some v) → ∃ o u, cs.lookup c = some o ∧ o.data = .cell (some u) ∧ RelV v u) : CellsAt (cloFrom cl l.scope.names []) fr ws s.heap (strip cs H) := by
  refine ⟨h1, fun y c e => ?_, C.inj, fun i y e => ?_⟩
  · obtain ⟨o, u, h2, h4⟩ := C.all y c e
    exact ⟨strip_in h2, u, o, celO_get x (hc c o h2), h4⟩
  · obtain ⟨c, h2, h4⟩ := h3 i y e
    refine ⟨c, h2, fun v hv => ?_⟩
    obtain ⟨o, u, a, b, r⟩ := h4 v hv
    exact ⟨u, r, o, celO_get x (hc c o a), b⟩
theorem vals_zero {n : List Dat} {us : List Value} (h : ∀ d ∈ n, True) (hu : us.length = n.length) (hz : ∀ u ∈ us, ∃ t, u = .int 0 t) : Vals (n.map fun _ => V.int 0) us := by
  induction n generalizing us with
  | nil => cases us with
    | nil => exact .nil
    | cons _ _ => simp at hu
  | cons d n ih => cases us with
    | nil => simp at hu
    | cons u us =>
      obtain ⟨t, rfl⟩ := hz u (by simp)
      exact .cons ⟨t, rfl⟩ (ih (fun _ _ => True.intro) (by simpa using hu) fun u hu => hz u (List.mem_cons_of_mem _ hu))
end
/-- what the table of readings is asked: each is the reading of a lambda's text -/
def TabOk (tb : List (Addr × Str)) (cs : Cels) (ow : LL) (k : Nat) (P : Program) (w : World) (K : PySem.W.Frag) (mg : Str → Option Value) (base : Heap) (B : LamI → List (Str × Addr) → Option UB) : Prop :=
  ∀ l cl b, B l cl = some b → ∃ N fr ds u, LamK l N fr ∧ Capt cs ow l cl fr ds ∧ b = (fun S K X => u (startL l N ds) S K X) ∧
    ∀ (A : Around) (outer : List Env) (s : Shared) (H : Hp) (E : XK) (f c : Addr), Room k (A.deeper (envF (nfOf l cl c) f s.heap.objs.size)) →
      ∃ t, @DE (bas tb) (ncx (L2.CX P w) P w K mg base N (nfOf l cl c) f A outer s H E) (WE0 E) l.body t u
theorem de_act {tb : List (Addr × Str)} {cs : Cels} {ow : LL} {X : Cx} {W : WX} {k i : Nat} {a : Str} {p1 p2 : Pos} {B : LamI → List (Str × Addr) → Option UB} (co : CelsOk cs) (hB : TabOk tb cs ow k X.prog X.w X.K X.mg X.base B) (tk : Takes X W) (hr : Room (k + 1) X.A)
    (hN : X.N[i]? = some a) (hv : Vis X.env.scope a) (hd : (a == ("__debug__" : Str)) = false := by decide) (hcd : (a == ("__classdict__" : Str)) = false := by decide) :
    @DE (wth tb cs ow) X W (.Call (.Name a p1) [] [] p2) (@tOf (wth tb cs ow) W (uAct B i)) (uAct B i) := @de_of (wth tb cs ow) _ _ _ _ fun pins s sg H Q dl L S T K Xk I he hs h hq hx => by
  unfold uAct at h
  split at h
  · rename_i l cl hdl
    obtain ⟨b, hb, hu⟩ := h
    obtain ⟨N, fr, ds, u, LK, C, rfl, hbody⟩ := hB l cl b hb
    obtain ⟨v, hsv, hL⟩ := he.2 i _ hdl
    obtain ⟨rho, hsx⟩ := id hs
    obtain ⟨len, nd, node, pin, rd, tab, cel, own, ntb⟩ := id hsx
    have hf := rd _ _ hL
    simp only [RD] at hf
    obtain ⟨f, rfl, fa⟩ := hf
    have hc : ∀ a o, cs.lookup a = some o → H a = some (CelO a o) := cel
    refine wpAny_Call_Name_kw (thn ((pe_var (pos := p1) hN hv hd hcd).run pins s sg H (fun v H1 => v = .ref f ∧ H1 = H) I ⟨.ref f, hsv, rfl, rfl⟩) fun u1 s1 ⟨v1, H1, I1, r1, q1⟩ => ?_)
    obtain ⟨ev, eH⟩ := q1
    subst ev
    rw [eH] at I1
    obtain rfl : u1 = Value.ref f := r1
    obtain ⟨c, dV, hfo, hco, hdv⟩ := fa
    obtain ⟨⟨pm, ctv, of1⟩, _, _⟩ := I1.hok f _ hfo
    obtain ⟨⟨oc, vs, t, hoc, hdc, hvc⟩, _, _⟩ := I1.hok c _ hco
    refine PySem.W.callWith_F0 (first := []) ⟨_, _, _, _, of1⟩ ?_
    show wpAny _ _ (call (.ref f) []) _ _ _
    -- what the body may find and must leave
    obtain ⟨ws, w1, w2, w3⟩ := C.ws
    let L1 : LL := fun v d => L v d ∨ ow v d ∨ (v = .int 0 ∧ d = .int 0)
    let Q1 : VK := fun v H1 => (∀ a o, cs.lookup a = some o → H1 a = none) → Q v (addc cs H1)
    let E1 : XK := fun cls d H1 => (∀ a o, cs.lookup a = some o → H1 a = none) → W cls d sg (addc cs H1)
    have hs1 : @SR (wth tb cs ow) H L1 S T := by
      letI : Tabl := wth tb cs ow
      refine ⟨rho, hsx.more fun v d q => ?_⟩
      rcases q with q | q | ⟨rfl, rfl⟩
      · exact .inl q
      · exact .inr (own _ _ q)
      · exact .inr (by simp only [RD])
    have hs2 : @SR (bas tb) (strip cs H) L1 S T := SR.back hs1 I1.hok co
    have back : ∀ {L' H' S'}, Lle L1 L' → @SR (bas tb) H' L' S' T → (∀ a o, cs.lookup a = some o → H' a = none) → @SR (wth tb cs ow) (addc cs H') L' S' T := fun {L' H' S'} l1 q n => SR.into q n fun v d z => l1 _ _ (.inr (.inl z))
    have lL : ∀ {L'}, Lle L1 L' → Lle L L' := fun {L'} l1 v d z => l1 _ _ (.inl z)
    have run : ∀ (binds : List (Str × Value)) (us : List Value), binds = (parNs l).zip us → us.length = (parDs l).length → (∀ u ∈ us, ∃ t, u = .int 0 t) → (∀ (R : List (Str × Value) → Shared → Prop) (E : Value → Shared → Prop), R binds s1 → wpAny (model X.prog X.w) X.A.in1 (bindArgs (lamFd l cl c dV pm ctv) ⟨[], []⟩) R E s1) →
        codeAny (model X.prog X.w) X.A (.call (.ref f) ⟨[], []⟩) (CR (L2.CX X.prog X.w) X.stack X.prog X.w (strip cs H) s1 Q1 E1) s1 := by
      intro binds us hbn hul hz hbind
      refine PySem.W.kla_callFunE hr.depth of1 rfl LK.sc.co LK.sc.gen rfl ⟨c, oc, vs, t, rfl, hoc, hdc, hvc⟩ ?_
      refine hbind _ _ ?_
      have hpl : (parNs l).length = (parDs l).length := by unfold parNs parDs; cases l.par <;> rfl
      refine wpAny_newFunctionEnv LK.sc.nocell (fun ⟨n, _⟩ hy => by rw [hbn] at hy; exact LK.sc.par n (List.of_mem_zip hy).1) (fun h₁ hns hsb => ⟨I1.nolimit.fresh _ hsb, ?_⟩) LK.sc.kind
      show codeAny _ _ (.expr l.body (envF (nfOf l cl c) f s1.heap.objs.size)) _ _
      have kp : ∀ b o, s1.heap.get? b = some o → h₁.get? b = some o := fun b o e => hsb.extBut b o (Nat.ne_of_lt (Heap.lt_size e)) (Heap.get?_push_of_some _ e)
      rw [hbn] at hns
      obtain ⟨tt, ⟨hrun, himp⟩⟩ := hbody X.A X.stack s1 (strip cs H) E1 f c (hr.deeper _)
      have J : Inv (ncx (L2.CX X.prog X.w) X.prog X.w X.K X.mg X.base N (nfOf l cl c) f X.A X.stack s1 (strip cs H) E1) [] (startF N ((parDs l).map fun _ => V.int 0) ws) (strip cs H) { s1 with heap := h₁, toks := s1.toks + binds.length } :=
        inv_startN (F := nfOf l cl c) LK.sc hr.hd (Env0.strip I1.env0 hc) (by rw [List.length_map, hpl]) (vals_zero (fun _ _ => True.intro) hul hz) (capt_at C I1.hok hc w1 w3) hns kp
      refine PySem.W.kla_codeExpr (wpAny_mono (hrun.run [] _ _ (strip cs H) Q1 J (himp (K := K) (X := Xk) (get_start rfl (w1.trans C.len.symm) w2 (fun v d z => .inr (.inl z)) (.inr (.inr ⟨rfl, rfl⟩))) hs2 hu (fun v d L' H' S' l1 p1 s1' k1 n => hq v d L' _ S' (lL l1) p1 (back l1 s1' n) k1)
        fun e dd L' H' S' l1 p1 s1' k1 n => hx e dd L' _ S' (lL l1) p1 (back l1 s1' n) k1)) (fun v s' hq' => ?_) fun e s' hq' => hq')
      obtain ⟨w', H', J', rv, q⟩ := hq'
      exact ⟨w', H', J'.os, J'.bare, J'.base, J'.hok, rv, q⟩
    have rc : codeAny (model X.prog X.w) X.A (.call (.ref f) ⟨[], []⟩) (CR (L2.CX X.prog X.w) X.stack X.prog X.w (strip cs H) s1 Q1 E1) s1 := by
      rcases hdv with ⟨rfl, hp⟩ | ⟨D, rfl, hD, hp⟩
      · refine run [] [] (by simp [parNs, hp]) (by simp [parDs, hp]) (by simp) fun R E hR => ?_
        rw [LK.b0 hp]
        exact wpAny_pure hR
      · obtain ⟨a0, ha⟩ : ∃ a0, l.par = some a0 := by
          cases q : l.par with
          | none => exact (hp q).elim
          | some a0 => exact ⟨a0, rfl⟩
        obtain ⟨⟨t0, oD⟩, _, _⟩ := I1.hok D _ hD
        refine run [(a0, .int 0 t0)] [.int 0 t0] (by simp [parNs, ha]) (by simp [parDs, ha]) (by simp) fun R E hR => ?_
        obtain ⟨kk, e1, e2⟩ := LK.b1 a0 ha cl c D pm ctv
        rw [e1]
        refine wpAny_bind (wpAny_seqItems oD rfl ?_)
        rw [e2]
        exact wpAny_pure hR
    have hfr : ∀ b ∈ frs X.stack, H b = none := I1.env0.frf
    refine wpAny_call (codeAny_mono rc fun r s' hq' => ?_)
    cases r with
    | error e => exact passAt tk sg pins H s1 e s' I1 (cx_gone hc I1.hok hfr hq')
    | ok fl =>
      cases fl with
      | ret u =>
        obtain ⟨v, H', os, bare, un, hok, rv, q⟩ := (show CE X.stack X.prog X.w (strip cs H) s1 Q1 u s' from hq')
        obtain ⟨g1, g2⟩ := un_gone un hc I1.hok hfr
        exact I1.after ⟨v, addc cs H', os, bare, g2, HOk.addc hok g1, rv, q fun a o e => (g1 a o e).2⟩
      | next => exact False.elim hq'
      | brk => exact False.elim hq'
      | cont => exact False.elim hq'
  · exact h.elim
end DL
/-! DY5: a def is called with lambdas. -/
namespace DL
open PySem PySem.Spec L2 PyProof.Rows NdefX
def slotD (dl : Env') (j : Nat) : Option Dat := match dl[j]? with
  | some o => o
  | none => none
theorem slotD_some {dl : Env'} {j : Nat} {d : Dat} (h : slotD dl j = some d) : dl[j]? = some (some d) := by
  unfold slotD at h
  cases e : dl[j]? with
  | none => rw [e] at h; cases h
  | some o => rw [e] at h; rw [show o = some d from h]
/-- the cells of a running frame, as they stand -/
def cellsNow (N : List Str) (cells : List (Str × Addr)) (h : Heap) : Cels := N.filterMap fun y => match cells.lookup y with
  | none => none
  | some c => (h.get? c).map fun o => (c, o)
theorem cellsNow_mem {N : List Str} {cells : List (Str × Addr)} {h : Heap} {a : Addr} {o : Obj} (e : (a, o) ∈ cellsNow N cells h) : ∃ y, y ∈ N ∧ cells.lookup y = some a ∧ h.get? a = some o := by
  unfold cellsNow at e
  obtain ⟨y, hy, e⟩ := List.mem_filterMap.mp e
  refine ⟨y, hy, ?_⟩
  cases q : cells.lookup y with
  | none => rw [q] at e; cases e
  | some c =>
    rw [q] at e
    cases r : h.get? c with
    | none => simp only [r] at e; cases e
    | some o' =>
      simp only [r, Option.map_some, Option.some.injEq, Prod.mk.injEq] at e
      obtain ⟨rfl, rfl⟩ := e
      exact ⟨rfl, r⟩
theorem mem_look {cs : Cels} {a : Addr} {o : Obj} (e : cs.lookup a = some o) : (a, o) ∈ cs := by
  induction cs with
  | nil => cases e
  | cons p r ih =>
    obtain ⟨b, u⟩ := p
    rw [List.lookup_cons] at e
    split at e
    · rename_i q
      have : a = b := by simpa using q
      injection e with e
      subst this
      subst e
      exact List.mem_cons_self
    · exact List.mem_cons_of_mem _ (ih e)
theorem look_mem {cs : Cels} {a : Addr} {o : Obj} (e : (a, o) ∈ cs) : ∃ o', cs.lookup a = some o' := by
  induction cs with
  | nil => cases e
  | cons p r ih =>
    obtain ⟨b, u⟩ := p
    rw [List.lookup_cons]
    split
    · exact ⟨_, rfl⟩
    · rename_i q
      rcases List.mem_cons.mp e with z | z
      · injection z with z1 z2
        subst z1
        simp at q
      · exact ih z
theorem cellsNow_look {N : List Str} {cells : List (Str × Addr)} {h : Heap} {y : Str} {c : Addr} {o : Obj} (hy : y ∈ N) (e : cells.lookup y = some c) (r : h.get? c = some o) : (cellsNow N cells h).lookup c = some o := by
  have m : (c, o) ∈ cellsNow N cells h := by
    unfold cellsNow
    refine List.mem_filterMap.mpr ⟨y, hy, ?_⟩
    rw [e]
    simp only [r, Option.map_some]
  obtain ⟨o', q⟩ := look_mem m
  obtain ⟨_, _, _, r'⟩ := cellsNow_mem (mem_look q)
  rw [r] at r'
  injection r' with r'
  rw [q, r']
/-- the lambdas of a def's frame: how their names lie to its slots; their readings -/
structure FrameTab (tb : List (Addr × Str)) (k : Nat) (X : Cx) (Bt : Env' → LamI → List (Str × Addr) → Option UB) : Prop where
  ok : ∀ dl l cl b, Bt dl l cl = some b → cl = X.env.cells ∧ ∃ (N fr : List Str) (js : List Nat) (u : UE), LamK l N fr ∧ js.map (fun j => X.N[j]?) = fr.map some ∧ (∀ y ∈ fr, (y, NameKind.free) ∈ l.scope.names) ∧ (∀ y ∈ l.scope.names, y.2 = .free → X.env.scope.names.lookup y.1 = some .cell ∨ X.env.scope.names.lookup y.1 = some .free) ∧
    b = (fun S K Xk => u (startL l N (js.map (slotD dl))) S K Xk) ∧ ∀ (A : Around) (outer : List Env) (s : Shared) (H : Hp) (E : XK) (f c : Addr), Room k (A.deeper (envF (nfOf l cl c) f s.heap.objs.size)) →
      ∃ t, @DE (bas tb) (ncx (L2.CX X.prog X.w) X.prog X.w X.K X.mg X.base N (nfOf l cl c) f A outer s H E) (WE0 E) l.body t u
section
variable {X : Cx} {pins : List (Addr × Obj)} {sg : L2.St} {H : Hp} {s : Shared} {dl : Env'} {L : LL} {tb : List (Addr × Str)} {k : Nat} {Bt : Env' → LamI → List (Str × Addr) → Option UB}
theorem now_cells (I : Inv X pins sg H s) : CelsOk (cellsNow X.N X.env.cells s.heap) := fun a o e => by
  obtain ⟨y, _, h1, h2⟩ := cellsNow_mem (mem_look e)
  obtain ⟨v, o', h3, h4⟩ := I.cell y a h1
  rw [h2] at h3
  injection h3 with h3
  subst h3
  exact ⟨v, h4⟩
theorem now_free (I : Inv X pins sg H s) : ∀ a o, (cellsNow X.N X.env.cells s.heap).lookup a = some o → s.heap.get? a = some o ∧ H a = none := fun a o e => by
  obtain ⟨y, _, h1, h2⟩ := cellsNow_mem (mem_look e)
  exact ⟨h2, I.freeC y a h1⟩
theorem FrameTab.tabOk (F : FrameTab tb k X Bt) (I : Inv X pins sg H s) (he : EnvIn sg dl L) : TabOk tb (cellsNow X.N X.env.cells s.heap) L k X.prog X.w X.K X.mg X.base (Bt dl) := fun l cl b hb => by
  obtain ⟨rfl, N, fr, js, u, LK, hjs, hfr, hfree, rfl, hbody⟩ := F.ok dl l cl b hb
  have hf : ∀ y ∈ l.scope.names, y.2 = .free → ∃ c, X.env.cells.lookup y.1 = some c := fun y hy e => (hfree y hy e).elim (fun z => I.ok.has _ (.inl z)) fun z => I.ok.has _ (.inr z)
  have hin : ∀ y ∈ fr, y ∈ X.N := fun y hy => by
    have : some y ∈ js.map (fun j => X.N[j]?) := by rw [hjs]; exact List.mem_map.mpr ⟨y, hy, rfl⟩
    obtain ⟨j, _, hj⟩ := List.mem_map.mp this
    exact List.mem_of_getElem? hj
  have hlen : js.length = fr.length := by
    have q := congrArg List.length hjs
    rw [List.length_map, List.length_map] at q
    exact q
  refine ⟨N, fr, js.map (slotD dl), u, LK, ⟨by rw [List.length_map]; exact hlen, fun y c e => ?_, fun x y c e1 e2 => I.ok.inj x y c (clo_cm hf e1) (clo_cm hf e2), fun i y e => ?_⟩, rfl, hbody⟩
  · have h1 := clo_cm hf e
    obtain ⟨v, o, h2, h3⟩ := I.cell y c h1
    have hy : (y, NameKind.free) ∈ l.scope.names := by
      rcases cloFrom_mem (PySem.mem_of_lookup e) with z | ⟨z, _⟩
      · cases z
      · exact z
    exact ⟨o, v, cellsNow_look (hin y (LK.sc.free _ hy rfl)) h1 h2, h3⟩
  · have hy := List.mem_of_getElem? e
    have hk := hfree _ (hfr y hy) rfl
    obtain ⟨c, hc⟩ := hf _ (hfr y hy) rfl
    refine ⟨c, clo_has hf (hfr y hy) hc, fun d hd => ?_⟩
    have e2 : (js.map fun j => X.N[j]?)[i]? = some (some y) := by rw [hjs, List.getElem?_map, e]; rfl
    rw [List.getElem?_map] at e2 hd
    cases ej : js[i]? with
    | none => rw [ej] at e2; cases e2
    | some j =>
      rw [ej] at e2 hd
      have hj : X.N[j]? = some y := Option.some.inj (show some (X.N[j]?) = some (some y) from e2)
      have hd2 : dl[j]? = some (some d) := slotD_some (Option.some.inj (show some (slotD dl j) = some (some d) from hd))
      obtain ⟨v, hv, hL⟩ := he.2 j d hd2
      obtain ⟨m, hn, hl⟩ := I.loc
      obtain ⟨u', r, q⟩ := hl j y v hj hv (hk.elim (fun z => .inr (.inl z)) fun z => .inr (.inr z))
      rcases q with ⟨z, _⟩ | ⟨_, c', hc', ⟨o, ho, hod⟩⟩
      · have z' : X.env.scope.names.lookup y = some .local := z
        rcases hk with k2 | k2 <;> rw [show X.env.scope.names.lookup y = _ from k2] at z' <;> cases z'
      · rw [hc] at hc'
        injection hc' with hc'
        subst hc'
        exact ⟨o, u', v, cellsNow_look (hin y hy) hc ho, hod, r, hL⟩
theorem now_env0 (I : Inv X pins sg H s) (hab : ∀ y c, X.env.cells.lookup y = some c → X.s_0.heap.objs.size ≤ c) : Env0 X.prog X.w X.K X.mg X.base X.A X.stack s (addc (cellsNow X.N X.env.cells s.heap) H) := by
  have e0 := I.env0
  have key : ∀ b, (∀ y, X.env.cells.lookup y ≠ some b) → H b = none → addc (cellsNow X.N X.env.cells s.heap) H b = none := fun b hb n => by
    cases q : (cellsNow X.N X.env.cells s.heap).lookup b with
    | none => rw [addc_out q]; exact n
    | some o =>
      obtain ⟨y, _, h1, _⟩ := cellsNow_mem (mem_look q)
      exact (hb y h1).elim
  refine ⟨e0.frames, e0.mod, fun b o e => ⟨(e0.bs b o e).1, key b (fun y z => ?_) (e0.bs b o e).2⟩, e0.bsz, e0.funs, fun b hb => key b (fun y z => ?_) (e0.frf b hb), HOk.addc e0.hok (now_free I), e0.bare⟩
  · have h1 := hab y b z
    have h2 := Heap.lt_size e
    have h3 := I.ok.bsz
    exact (Nat.lt_irrefl _ (Nat.lt_of_lt_of_le h2 (Nat.le_trans h3 h1))).elim
  · rcases List.mem_cons.mp (I.stkSub _ hb) with q | q
    · obtain ⟨m, ⟨o, es, ep, ho, hd, _⟩, _⟩ := I.loc
      obtain ⟨v, o', h3, h4⟩ := I.cell y b z
      rw [q] at h3
      rw [ho] at h3
      injection h3 with h3
      subst h3
      rw [hd] at h4
      cases h4
    · obtain ⟨_, o, ho, _⟩ := I.ok.funs.mem q
      have h1 := hab y b z
      have h2 := Heap.lt_size ho
      exact (Nat.lt_irrefl _ (Nat.lt_of_lt_of_le h2 h1)).elim
end
/-- g(..) with lambdas of this frame in what it gets: G is g's promise, given the lambdas' readings -/
def uGive (G : (LamI → List (Str × Addr) → Option UB) → Spec) (Bt : Env' → LamI → List (Str × Addr) → Option UB) (ua : UA) : UE := fun dl S K X => ua dl S (fun ds S1 => G (Bt dl) ds S1 K fun _ _ => False) X
theorem de_give {tb : List (Addr × Str)} {X : Cx} {W : WX} {k k' : Nat} {f : Addr} {fd : FuncData} {ps : List Str} {G : (LamI → List (Str × Addr) → Option UB) → Spec} {Bt : Env' → LamI → List (Str × Addr) → Option UB} {x : Str} {p pos : Pos} {e : Expr} {es : List Expr} {t : TA} {u : UA}
    (F : ∀ cs ow B, CelsOk cs → TabOk tb cs ow k' X.prog X.w X.K X.mg X.base B → FnOk X.prog X.w X.K X.mg X.base (L2.CX X.prog X.w) k f fd ps (@spOf (wth tb cs ow) (G B))) (hF : FrameTab tb k' X Bt) (hab : ∀ y c, X.env.cells.lookup y = some c → X.s_0.heap.objs.size ≤ c)
    (hr : Room k X.A) (hm : X.mg x = some (.ref f)) (hk : PySem.W.keepIn X.K (.ref f) = true) (hb : Binds X.K fd ps []) (ha : @DA (bas tb) X W (e :: es) t u) (hg : Gl X x := by rfl) (hdb : (x == ("__debug__" : Str)) = false := by decide)
    (he : starEach (e :: es) X.env = (false, eval e X.env) :: starEach es X.env := by rfl) (hpl : (backTo pos (starEach es X.env)).any (·.1) = false := by rfl) :
    @DE (bas tb) X W (.Call (.Name x p) (e :: es) [] pos) (@tOf (bas tb) W (uGive G Bt u)) (uGive G Bt u) := @de_of (bas tb) _ _ _ _ fun pins s sg H Q dl L S T K Xk I hE hs h hq hx => by
  obtain ⟨arun, aimp⟩ := ha
  refine wpAny_Call_Name_kw (ld_glob I hg hm ?_ hdb)
  refine PySem.W.callWith_K (h₀ := X.base) I.ok.mod.kin hk (thn (arun.run pos pins s sg H (fun vs H1 => ∃ L1 ds S1, Lle L L1 ∧ Ls L1 vs ds ∧ @SR (bas tb) H1 L1 S1 T ∧ G (Bt dl) ds S1 K fun _ _ => False) I (aimp hE hs h (fun vs ds L1 H1 S1 l1 p1 s1 k1 => ⟨L1, ds, S1, l1, p1, s1, k1⟩) hx)) fun us s1 ⟨vs, H1, I1, r, q⟩ => ⟨I1.kIn, ?_⟩) he hpl
  obtain ⟨L1, ds, S1, l1, p1, hs1, hG⟩ := q
  have hfree := now_free I1
  have co := now_cells I1
  have hT := hF.tabOk I1 (hE.le l1)
  have F1 := F _ L1 _ co hT
  have hl : us.length = ps.length := by
    rw [← r.length]
    exact F1.len vs (addc (cellsNow X.N X.env.cells s1.heap) H1) (fun _ _ => True) (fun _ _ _ => True) ⟨ds, L1, S1, T, K, _, p1, SR.into hs1 (fun a o e => (hfree a o e).2) (Lle.refl L1), hG, fun _ _ _ _ _ _ _ _ _ => True.intro, fun _ _ _ _ _ _ _ _ _ => True.intro⟩
  have rc := F1.run X.A X.stack s1 (addc (cellsNow X.N X.env.cells s1.heap) H1) ⟨us, []⟩ us vs (fun v H2 => (∀ a o, (cellsNow X.N X.env.cells s1.heap).lookup a = some o → H2 a = some (CelO a o)) ∧ ∀ h, HOk X.prog X.w H2 h → Q v (strip (cellsNow X.N X.env.cells s1.heap) H2)) (fun _ _ _ => False)
    hr (now_env0 I1 hab) (by have := hb s1 us I1.kIn (by simpa using hl); simpa using this) r ⟨ds, L1, S1, T, K, _, p1, SR.into hs1 (fun a o e => (hfree a o e).2) (Lle.refl L1), hG, fun v d L' H' S' l2 p2 s2 k2 => ⟨by
      obtain ⟨rho, ⟨_, _, _, _, _, _, cel, _, _⟩⟩ := s2
      exact cel, fun h hok => hq v d L' _ S' (l1.trans l2) p2 (SR.back s2 hok co) k2⟩, fun _ _ _ _ _ _ _ _ z => z.elim⟩
  refine wpAny_call (codeAny_mono rc fun r s' hq' => ?_)
  cases r with
  | error e => exact (cx_none hq').elim
  | ok fl =>
    cases fl with
    | ret u =>
      obtain ⟨v, H', os, bare, un, hok, rv, q1, q2⟩ := (show CE X.stack X.prog X.w _ s1 _ u s' from hq')
      exact I1.after ⟨v, strip _ H', os, bare, Un.back un hfree hok q1, HOk.strip hok q1, rv, q2 _ hok⟩
    | next => exact False.elim hq'
    | brk => exact False.elim hq'
    | cont => exact False.elim hq'
end DL
/-! DY6: try: .. except (A, B, C) as e: .. -/
namespace DL
open PySem PySem.Spec L2 PyProof.Rows
/-- an object more does not touch what flies -/
theorem fly_push {B h : Heap} {l : List Env} {a : Addr} {Z : Obj → Prop} {o : Obj} (f : HandSPX.FlyingZ B l a Z h) : HandSPX.FlyingZ B l a Z (h.push o) := by
  obtain ⟨f1, f2, f3, oe, vs, T, oT, ts, g1, g2, g3, g4, g5, g6, g7, g8, g9⟩ := f
  exact ⟨fun b u e => Heap.get?_push_of_some _ (f1 b u e), f2, f3.of_keeps fun b u e _ => ⟨u, Heap.get?_push_of_some _ e, rfl⟩, oe, vs, T, oT, ts, Heap.get?_push_of_some _ g1, g2, g3, g4, g5, g6, Heap.get?_push_of_some _ g7, g8, g9⟩
theorem up_push {h : Heap} {o : Obj} : h.UpToSlots (h.push o) := Heap.UpToSlots.of_keeps fun _ _ e => Heap.get?_push_of_some _ e
/-- what the clause wishes of an error of the body: it is one of these classes; slot i is its name's -/
def w3 (K : PySem.W.Frag) (cs : List Value) (i : Nat) (ts : Addr → Value → Option Addr → TS) (D : Ends) : WX := fun cls d sg H =>
  PySem.W.exmAny K cls cs = some true ∧ ∀ a, H a = none → ts a cls d { nx := fun sg' H' => D.nx (sg'.set i none) H', rt := D.rt, bk := fun sg' H' => D.bk (sg'.set i none) H', ct := fun sg' H' => D.ct (sg'.set i none) H' } (sg.set i (some (.ref a))) H
section
variable {X : Cx} {x1 x2 x3 n : Str} {c1 c2 c3 : Value} {i : Nat} {body suite : List Stmt} {b₀ : Stmt} {q1 q2 q3 qt pos pos' : Pos} {k0 : Nat} {tb : WX → TS} {ts : Addr → Value → Option Addr → TS}
theorem ld_names {Y : Cx} {pins : List (Addr × Obj)} {sg : L2.St} {H : Hp} {s : Shared} {x : Str} {c : Value} {p : Pos} {Q : Value → Shared → Prop} {E : Value → Shared → Prop} (I : Inv Y pins sg H s) (hc : Names Y x c) (h : Q c s) : wpAny (model Y.prog Y.w) Y.A (eval (.Name x p) Y.env) Q E s := by
  obtain ⟨hg, hd, hm | ⟨hm, hv, hn⟩⟩ := hc
  · exact ld_glob I hg hm h hd
  · exact ld_blt I hg hm hv h hn hd
theorem ld_tup3 {Y : Cx} {pins : List (Addr × Obj)} {sg : L2.St} {H : Hp} {s : Shared} {Q : Value → Shared → Prop} {E : Value → Shared → Prop} (I : Inv Y pins sg H s) (h1 : Names Y x1 c1) (h2 : Names Y x2 c2) (h3 : Names Y x3 c3)
    (h : Q (.ref s.heap.objs.size) { s with heap := s.heap.push { cls := .type "tuple", data := .seq [c1, c2, c3].toArray } }) : wpAny (model Y.prog Y.w) Y.A (eval (.Tuple [.Name x1 q1, .Name x2 q2, .Name x3 q3] k0 qt) Y.env) Q E s := by
  refine wpAny_Tuple_spliced ?_
  show wpAny _ _ (spliced ((false, eval (.Name x1 q1) Y.env) :: (false, eval (.Name x2 q2) Y.env) :: (false, eval (.Name x3 q3) Y.env) :: [])) _ _ _
  exact Calls.spliced_cons (ld_names I h1 (Calls.spliced_cons (ld_names I h2 (Calls.spliced_cons (ld_names I h3 (Calls.spliced_nil ⟨(by decide : 3 ≤ sizeLine), h⟩))))))
theorem ps_try3 (hs : X.stack = X.env :: X.outer) (hf : X.env.frame = some X.env.locals) (hN : X.N.Nodup) (hi : X.N[i]? = some n) (hln : X.env.kindOf n = some .local) (h1 : Names X x1 c1) (h2 : Names X x2 c2) (h3 : Names X x3 c3)
    (hb : ∀ (W : WX) (pn : List (Addr × Obj)) (xe : Value → Shared → Prop), Takes (X.tr pn xe) W → PassesOwn (model X.prog X.w) X.A X.env xe → PSs (X.tr pn xe) body (tb W))
    (hsu : ∀ (a : Addr) (oe : Obj) (cls : Value) (d : Option Addr) (pn : List (Addr × Obj)), Zc cls d oe → (∃ vs : Array Value, oe.data = .fields vs ∧ True) → PSs (X.suite a ((a, oe) :: pn)) (b₀ :: suite) (ts a cls d)) :
    PS X (.Try body [.ExceptHandler (some (.Tuple [.Name x1 q1, .Name x2 q2, .Name x3 q3] k0 qt)) (some n) (b₀ :: suite) pos'] [] [] pos) (fun D sg H => tb (w3 X.K [c1, c2, c3] i ts D) D sg H) := by
  refine ⟨fun pins s sg H D I h => wpAny_Try_except (wpAny_mono ((hb (w3 X.K [c1, c2, c3] i ts D) (X.pn ++ pins) _ (fun u s' xx => ?_) PassesOwn.looking).run [] s sg H D (I.toTry _) h) (fun f s1 hsp => ?_) fun _ _ z => z)⟩
  · obtain ⟨a, B, sI, pins', sg', H', cls, d, rfl, J', nb, up, sky, na, os, ag, hm, hyes⟩ := xx
    have ok := I.ok
    have hfr : X.A.frames = some (X.env :: X.outer) := by rw [ok.frames, hs]
    have J : Inv X pins sg' H' sI := J'.ofTry ok
    have sky2 : Sky B (X.env :: X.outer) a (Zc cls d) X.env.locals s'.heap := by rw [← hs]; exact sky
    show wpAny (model X.prog X.w) X.A (noteFrame (.ref a) X.env) _ _ _
    refine Sky.land Zc.steady hfr hf sky2 fun g fl up1 => ?_
    have K1 : Inv X pins sg' H' { s' with heap := g } := J.landed nb fl.1 (up.trans up1) os ag
    obtain ⟨o1, v1, e1, z1, d1⟩ := fl.there
    have out : ∀ {h : Heap} {o : Obj} {vs : Array Value}, h.FunFrames B (X.env :: X.outer) → h.get? a = some o → o.data = .fields vs → a ∉ frs (X.env :: X.outer) := fun {h o vs} ff e dd hm => by
      obtain ⟨_, o', e', hnf⟩ := ff.mem hm
      rw [e] at e'
      injection e' with e'
      subst e'
      exact hnf _ dd
    have nfr := out fl.2.2.1 e1 d1
    have nL : a ≠ X.env.locals := fun z => nfr (List.mem_filterMap.mpr ⟨X.env, List.mem_cons_self, by rw [hf, z]⟩)
    have nF : a ∉ X.fs := fun hm => by
      obtain ⟨e, he, q⟩ := List.mem_filterMap.mp hm
      exact nfr (List.mem_filterMap.mpr ⟨e, List.mem_cons_of_mem _ he, q⟩)
    have S1 := K1.suite e1 d1 na nL nF
    refine wpAny_handleBy_cons (codeAny_handlers_test ?_) (by intro q; cases q)
    refine ld_tup3 (Y := X.suite a ((a, o1) :: (X.pn ++ pins))) S1 h1 h2 h3 ?_
    have kp : ∀ b o, g.get? b = some o → (g.push { cls := .type "tuple", data := .seq [c1, c2, c3].toArray }).get? b = some o := fun b o e => Heap.get?_push_of_some _ e
    have LT : PySem.W.Looks (model X.prog X.w) (g.push { cls := .type "tuple", data := .seq [c1, c2, c3].toArray }) (typeOf (.ref a)) cls := fun A Q E s k q => wpAny_typeOf_ref (k _ _ (kp _ _ e1)) (by rw [z1.1]; exact q)
    have LM := PySem.W.exm_tup3 (M := model X.prog X.w) (tp := g.objs.size) (e := a) (K1.kIn.keeps kp) LT (Heap.get?_push_size _ rfl) hm
    refine LM.here ?_
    refine codeAny_handlers_suite_as ?_
    refine HandSPX.lands_againZ (fly_push fl) fun g2 fl2 up2 => ?_
    have K2 : Inv X pins sg' H' { s' with heap := g2 } := J.landed nb fl2.1 (((up.trans up1).trans up_push).trans up2) os ag
    obtain ⟨o2, v2, e2, z2, d2⟩ := fl2.there
    have S2 := K2.suite e2 d2 na nL nF
    refine store_ok (X := X.suite a ((a, o2) :: (X.pn ++ pins))) (v := .ref a) S2 hN hi (.inl hln) rfl (fun s5 S5 => ?_) (.inr hln)
    have bye : ∀ {s6 : Shared} {sg6 : L2.St} {H6 : Hp} {Q : Shared → Prop}, Inv (X.suite a ((a, o2) :: (X.pn ++ pins))) [] sg6 H6 s6 → (∀ s7, Inv X pins (sg6.set i none) H6 s7 → Q s7) →
        wpAny (model X.prog X.w) X.A (do bindName X.env n .none; unbindBehindTheSuite X.env n pos') (fun _ s7 => Q s7) X.xe s6 := fun {s6 sg6 H6 Q} S6 hq => gone_ok (S6.unsuite ok) hN hi hln hq
    refine wpAny_mono ((hsu a o2 cls d (X.pn ++ pins) z2 ⟨_, d2, True.intro⟩).run [] s5 _ H' _ S5 (hyes a na)) (fun f s6 hsp => ?_) (fun _ _ z => False.elim z)
    cases f with
    | ret u =>
      obtain ⟨v6, sg6, H6, S6, r6, q6⟩ := hsp
      exact bye S6 fun s7 J7 => ⟨_, _, _, J7, r6, q6⟩
    | next =>
      obtain ⟨sg6, H6, S6, q6⟩ := hsp
      exact bye S6 fun s7 J7 => ⟨_, _, J7, q6⟩
    | brk =>
      obtain ⟨sg6, H6, S6, q6⟩ := hsp
      exact bye S6 fun s7 J7 => ⟨_, _, J7, q6⟩
    | cont =>
      obtain ⟨sg6, H6, S6, q6⟩ := hsp
      exact bye S6 fun s7 J7 => ⟨_, _, J7, q6⟩
  · have ok := I.ok
    cases f with
    | ret u =>
      obtain ⟨v, sg', H', J, r, q⟩ := hsp
      exact ⟨v, sg', H', J.ofTry ok, r, q⟩
    | next =>
      obtain ⟨sg', H', J, q⟩ := hsp
      exact wpAny_execs_nil ⟨sg', H', J.ofTry ok, q⟩
    | brk =>
      obtain ⟨sg', H', J, q⟩ := hsp
      exact ⟨sg', H', J.ofTry ok, q⟩
    | cont =>
      obtain ⟨sg', H', J, q⟩ := hsp
      exact ⟨sg', H', J.ofTry ok, q⟩
end
end DL
/-! DY7: try over data; an error's fields; a def called in an except suite. -/
namespace DL
open PySem PySem.Spec L2 PyProof.Rows
def tOfS [Tabl] (W : WX) (u : US) : TS := fun D' sg H => ∃ dl L S T D, EnvIn sg dl L ∧ SR H L S T ∧ u D dl S ∧ SOk sg.length W L T D D'
theorem dss_of [Tabl] {X : Cx} {W : WX} {ss : List Stmt} {t : TS} {u : US} (h : DSs X W ss t u) : PSs X ss (tOfS W u) := by
  obtain ⟨hr, hi⟩ := h
  exact ⟨fun pins s sg H D' I ⟨dl, L, S, T, D, h1, h2, h3, h4⟩ => hr.run pins s sg H D' I (hi h1 h2 h3 h4)⟩
theorem ds_ofS [Tabl] {X : Cx} {W : WX} {st : Stmt} {u : US} (h : PS X st (tOfS W u)) : DS X W st (tOfS W u) u := ⟨h, fun {sg dl L H S T D D'} h1 h2 h3 h4 => ⟨dl, L, S, T, D, h1, h2, h3, h4⟩⟩
abbrev WFF : WX := fun _ _ _ _ => False
/-- mt: the classes that the clause names; us a d C: the suite's reading, the error at a with its fields at d -/
def uTry (mt : Addr → Prop) (ub : US) (us : Addr → Addr → Addr → US) (i : Nat) : US := fun D dl S => ub { D with ex := fun e dl1 S1 => mt e.C ∧ ∀ a d, us a d e.C { nx := fun dl2 S2 => D.nx (dl2.set i none) S2, rt := D.rt, bk := fun dl2 S2 => D.bk (dl2.set i none) S2, ct := fun dl2 S2 => D.ct (dl2.set i none) S2 } (dl1.set i (some (.exv a d e.ns e.xs))) S1 } dl S
theorem EnvIn.setN {sg : L2.St} {dl : Env'} {L : LL} (he : EnvIn sg dl L) (i : Nat) : EnvIn (sg.set i none) (dl.set i none) L := by
  refine ⟨by rw [List.length_set, List.length_set]; exact he.1, fun k d hk => ?_⟩
  by_cases e : k = i
  · subst e
    by_cases hi : k < dl.length
    · rw [List.getElem?_set_self hi] at hk; cases hk
    · rw [List.getElem?_eq_none (by simpa using hi)] at hk; cases hk
  · rw [List.getElem?_set_ne (Ne.symm e)] at hk
    obtain ⟨v, h1, h2⟩ := he.2 k d hk
    exact ⟨v, by rw [List.getElem?_set_ne (Ne.symm e)]; exact h1, h2⟩
theorem NOk.setN [Tabl] {n : Nat} {L : LL} {T : List (Addr × HO)} {K : Env' → Store → Prop} {Q : L2.St → Hp → Prop} (x : NOk n L T K Q) (i : Nat) : NOk n L T (fun dl S => K (dl.set i none) S) fun sg H => Q (sg.set i none) H := fun sg dl L' H' S' l hl he hs hk => x _ _ L' H' S' l (by rw [List.length_set]; exact hl) (he.setN i) hs hk
theorem SR.exv [Tabl] {H : Hp} {L : LL} {S : Store} {T : List (Addr × HO)} {a d : Addr} {ns : List Str} {xs : List Dat} (s : SR H L S T) (h : L (.ref d) (.xd ns xs)) : SR H (Ladd L (.ref a) (.exv a d ns xs)) S T := by
  obtain ⟨rho, x⟩ := s
  refine ⟨rho, x.more fun v c q => ?_⟩
  rcases q with q | ⟨rfl, rfl⟩
  · exact .inl q
  · have k := x.rd _ _ h
    simp only [RD] at k ⊢
    obtain ⟨b, vs, e, h1, h2, h3, h4⟩ := k
    injection e with e
    subst e
    exact .inr ⟨True.intro, vs, h1, h2, h3, h4⟩
section
variable {X : Cx} {W : WX} {x1 x2 x3 n : Str} {c1 c2 c3 : Value} {i : Nat} {body suite : List Stmt} {b₀ : Stmt} {q1 q2 q3 qt pos pos' : Pos} {k0 : Nat} {ub : US} {us : Addr → Addr → Addr → US} {mt : Addr → Prop}
theorem ds_try3 [Tabl] (hs : X.stack = X.env :: X.outer) (hf : X.env.frame = some X.env.locals) (hN : X.N.Nodup) (hi : X.N[i]? = some n) (hln : X.env.kindOf n = some .local) (h1 : Names X x1 c1) (h2 : Names X x2 c2) (h3 : Names X x3 c3)
    (hmt : ∀ C, mt C → PySem.W.exmAny X.K (.ref C) [c1, c2, c3] = some true)
    (hb : ∀ (W : WX) (pn : List (Addr × Obj)) (xe : Value → Shared → Prop), Takes (X.tr pn xe) W → PassesOwn (model X.prog X.w) X.A X.env xe → ∃ t, DSs (X.tr pn xe) W body t ub)
    (hsu : ∀ (a : Addr) (oe : Obj) (d C : Addr) (pn : List (Addr × Obj)), mt C → Zc (.ref C) (some d) oe → (∃ vs : Array Value, oe.data = .fields vs) → ∃ t, DSs (X.suite a ((a, oe) :: pn)) WFF (b₀ :: suite) t (us a d C)) :
    DS X W (.Try body [.ExceptHandler (some (.Tuple [.Name x1 q1, .Name x2 q2, .Name x3 q3] k0 qt)) (some n) (b₀ :: suite) pos'] [] [] pos) (tOfS W (uTry mt ub us i)) (uTry mt ub us i) := by
  let ts : Addr → Value → Option Addr → TS := fun a cls d D' sg H => ∃ C dd, cls = .ref C ∧ d = some dd ∧ mt C ∧ tOfS WFF (us a dd C) D' sg H
  have key := ps_try3 (X := X) (body := body) (b₀ := b₀) (suite := suite) (q1 := q1) (q2 := q2) (q3 := q3) (qt := qt) (pos := pos) (pos' := pos') (k0 := k0) (tb := fun W => tOfS W ub) (ts := ts) hs hf hN hi hln h1 h2 h3
    (fun W pn xe tk po => (hb W pn xe tk po).elim fun t ht => dss_of ht)
    (fun a oe cls d pn hz hd => ⟨fun pins s sg H D' I ⟨C, dd, e1, e2, hm, hq⟩ => by
      subst e1
      subst e2
      obtain ⟨vs, hv, _⟩ := hd
      obtain ⟨t, ht⟩ := hsu a oe dd C pn hm hz ⟨vs, hv⟩
      exact (dss_of ht).run pins s sg H D' I hq⟩)
  refine ds_ofS ⟨fun pins s sg H D' I ⟨dl, L, S, T, D, he, hsr, hu, hk⟩ => key.run pins s sg H D' I ⟨dl, L, S, T, _, he, hsr, hu, ⟨hk.nx, hk.rt, hk.bk, hk.ct, fun e dd sg' dl' L' H' S' l hl he' hd hs' hx => ?_⟩⟩⟩
  obtain ⟨hm, hx⟩ := hx
  refine ⟨hmt _ hm, fun a _ => ⟨e.C, dd, rfl, rfl, hm, dl'.set i (some (.exv a dd e.ns e.xs)), Ladd L' (.ref a) (.exv a dd e.ns e.xs), S', T, _, ?_, hs'.exv hd, hx a dd, ?_⟩⟩
  · refine (he'.le Ladd.le).set ?_ Ladd.here
    rw [← he'.1, hl, I.len]
    exact (List.getElem?_eq_some_iff.mp hi).1
  · have hk2 := hk.le (l.trans (Ladd.le (L := L') (v := .ref a) (d := .exv a dd e.ns e.xs)))
    rw [List.length_set, hl]
    exact ⟨hk2.nx.setN i, hk2.rt, hk2.bk.setN i, hk2.ct.setN i, fun _ _ _ _ _ _ _ _ _ _ _ _ z => z.elim⟩
end
/-! ### an error's field -/
def uXf (a d : Addr) (f : Str) (ua : UE) : UE := fun dl S K X => ua dl S (fun v S1 => match v with
  | .exv a' d' ns xs => a' = a ∧ d' = d ∧ ∃ y, (ns.zip xs).lookup f = some y ∧ K y S1
  | _ => False) X
theorem de_xf [Tabl] {X : Cx} {W : WX} {a C d : Addr} {oe : Obj} {e : Expr} {te : TE} {ue : UE} {pos : Pos} {n : Str} (T : XfC X.K C) (hno : PySem.W.findIn X.K (.ref C) n = some none) (hp : (a, oe) ∈ X.pn) (hz : Zc (.ref C) (some d) oe) (hf : ∃ vs : Array Value, oe.data = .fields vs)
    (he : DE X W e te ue) (hb : attributeBase e n X.env (eval e X.env) = eval e X.env := by rfl) : DE X W (.Attribute e n pos) (tOf W (uXf a d n ue)) (uXf a d n ue) := de_of fun pins s sg H Q dl L S T' K Xk I hE hs h hq hx => by
  refine attr_of hb (thn (he.run.run pins s sg H (fun v H1 => ∃ L1 S1 ns xs y, v = .ref a ∧ Lle L L1 ∧ L1 (.ref a) (.exv a d ns xs) ∧ SR H1 L1 S1 T' ∧ (ns.zip xs).lookup n = some y ∧ K y S1) I (he.imp hE hs h (fun v c L1 H1 S1 l1 p1 s1 k1 => ?_) hx)) fun u s1 hh => ?_)
  · cases c with
    | exv a' d' ns xs =>
      obtain ⟨rfl, rfl, y, e1, e2⟩ := k1
      obtain ⟨rho, z⟩ := id s1
      have q := z.rd _ _ p1
      simp only [RD] at q
      obtain ⟨rfl, _⟩ := q
      exact ⟨L1, S1, ns, xs, y, rfl, l1, p1, s1, e1, e2⟩
    | _ => exact k1.elim
  · obtain ⟨v, H1, I1, rx, L1, S1, ns, xs, y, ev, l1, p1, hs1, hy, hK⟩ := hh
    subst ev
    obtain rfl : u = Value.ref a := rx
    obtain ⟨rho, z⟩ := id hs1
    have q := z.rd _ _ p1
    simp only [RD] at q
    obtain ⟨_, vs, nd, hd, hl, hr⟩ := q
    have hls : Ls (fun v d => RD H1 (rho ++ T'.map (·.1)) rho d v) vs xs := RDs.ls (fun _ _ h => h) hr
    obtain ⟨v, hv, rv⟩ := zip_some hls hy
    obtain ⟨ha, _⟩ := I1.pin (a, oe) (List.mem_append_left _ hp)
    obtain ⟨vs0, hd0⟩ := hf
    have hx0 : ObjOk X.prog X.w H1 s1.heap d (.xd (ns.zip vs)) := I1.hok d _ hd
    obtain ⟨mA, hns, hrl⟩ := hx0
    obtain ⟨od, ho, hlk⟩ := lookIn_ns hns
    obtain ⟨u, hu, ru⟩ := RelO.some_of (v := v) (o := mA n) (by rw [← hv]; exact hrl n)
    have J : PySem.W.InstAt s1.heap a oe C (some od) := ⟨ha, hz.1, by unfold PySem.W.notCls; rw [hd0] <;> rfl, by rw [hz.2]; exact ho⟩
    refine HandSPX.exc_get I1.kIn J T.ga T.gg T.exC (PySem.W.findObj_own T.hdC hno rfl (by rw [hlk, hu])) (handed_of ru) ⟨v, H1, I1.tok _, ru, hq v y (Ladd L1 v y) H1 S1 (l1.trans Ladd.le) Ladd.here ⟨rho, z.more fun v' d' q => ?_⟩ hK⟩
    rcases q with q | ⟨rfl, rfl⟩
    · exact .inl q
    · exact .inr rv
/-! ### a def called in an except suite -/
section
variable {P : Program} {w : World} {K : PySem.W.Frag} {mg : Str → Option Value} {base : Heap} {x qual : Str} {params : Arguments} {body : List Stmt} {scope : Scope} {f : Addr} {fd : FuncData} {N ps : List Str} {k : Nat}
/-- the def runs, p's object pinned -/
theorem run_hot {CX : CXT} {name : Str} {dV kV doc pm cdv ct oc : Value} {an od : Option Addr} {osl : Array (Option Value)} (lk : K.lookup f = some ⟨oc, od, .func (PySem.W.fnOf name qual params body scope dV kV doc pm an cdv ct), osl⟩) (hcd : PySem.W.codeIn K cdv qual = true) (Sc : FnScope N ps scope)
    {A : Around} {outer : List Env} {s : Shared} {H : Hp} {args : Args} {us : List Value} {vs : List V} {Q : VK} {E : XK} {p : Addr × Obj} (hr : L2H.RoomH (k + 1) A) (hpin : L2H.PinOk outer H s p) (e0 : Env0 P w K mg base A outer s H) (hb : BindsTo s (PySem.W.fnOf name qual params body scope dV kV doc pm an cdv ct) args (ps.zip us)) (r : Vals vs us) (hl : vs.length = ps.length)
    (hbody : ∃ t, PSs (L2H.cxH CX P w K mg base N qual scope f cdv A outer s H E p) body t ∧ t { nx := fun _ H' => Q .non H', rt := Q } (L2.start N vs) H) :
    codeAny (model P w) A (.call (.ref f) args) (CR CX outer P w H s Q E) s := by
  have KX : K.In s.heap := e0.mod.kin.keeps fun b o e => (e0.bs b o e).1
  have lim : s.heap.NoLimit := e0.mod.nolimit.keeps fun b o e => (e0.bs b o e).1
  refine codeAny_call_function hr.depth (KX _ _ lk) rfl Sc.co Sc.gen rfl (PySem.W.codeRec_of KX hcd) (hb _ _ _ _ (wpAny_newFunctionEnv_cells Sc.kind (fun ⟨n, v⟩ hy => ?_) fun env he s1 x => ?_))
  · rcases Sc.par n (List.of_mem_zip hy).1 with q | q
    · exact .inl q
    · exact .inr ⟨q, PySem.W.cellsFrom_some _ _ _ (.inl q)⟩
  · subst he
    refine ⟨lim.keeps x.toInCall.keep, codeAny_func ?_⟩
    obtain ⟨t, ht, hq⟩ := hbody
    have I := L2H.inv_startH (CX := CX) (E := E) Sc hpin e0 hl r x
    refine wpAny_mono (ht.run [] s1 (L2.start N vs) H _ I hq) (fun fl s' hs => ?_) fun _ _ z => z
    cases fl with
    | ret u =>
      obtain ⟨v, sg', H', J, rv, q⟩ := hs
      exact ⟨v, H', J.os, J.bare, J.base, J.hok, rv, q⟩
    | next =>
      obtain ⟨sg', H', J, q⟩ := hs
      exact ⟨V.non, H', J.os, J.bare, J.base, J.hok, (rfl : RelV V.non Value.none), q⟩
    | brk =>
      obtain ⟨_, _, _, q⟩ := hs
      exact False.elim q
    | cont =>
      obtain ⟨_, _, _, q⟩ := hs
      exact False.elim q
end
/-- g(e), in the suite: u is g's body's reading -/
theorem ls_belows [Tabl] {H : Hp} {L : LL} {S : Store} {T : List (Addr × HO)} (s : SR H L S T) : ∀ {vs : List V} {ds : List Dat}, Ls L vs ds → DL.belows S.length ds
  | [], [], _ => by simp only [DL.belows]
  | v :: vs, d :: ds, h => by
    simp only [DL.belows]
    exact ⟨s.below h.1, ls_belows s h.2⟩
  | [], _ :: _, h => h.elim
  | _ :: _, [], h => h.elim
def uHot (N : List Str) (u : US) (ua : UA) : UE := fun dl S K X => ua dl S (fun ds S1 => ds.length = 1 ∧ (belows S1.length ds → belows S1.length S1 → u (endsOf S1 K fun _ _ => False) (startD N ds) S1)) X
theorem de_hot [Tabl] {X : Cx} {W : WX} {x qual p0 : Str} {params : Arguments} {body : List Stmt} {scope : Scope} {f : Addr} {fd : FuncData} {N : List Str} {k : Nat} {u : US} {p : Addr × Obj} {q pos : Pos} {e : Expr} {es : List Expr} {ta : TA} {ua : UA}
    (F : FunD X.K x qual params body scope [] [] f fd) (Sc : FnScope N [p0] scope) (hb : Binds X.K fd [p0] []) (hp : p ∈ X.pn) (hr : L2H.RoomH (k + 1) X.A) (hg : Gl X x) (hm : X.mg x = some (.ref f))
    (hbody : ∀ (cdv : Value) (s : Shared) (H : Hp), L2H.RoomH k (X.A.deeper (envOfC qual scope s.heap.objs.size f cdv)) → ∃ t, DSs (L2H.cxH (L2.CX X.prog X.w) X.prog X.w X.K X.mg X.base N qual scope f cdv X.A X.stack s H (fun _ _ _ => False) p) WFF body t u)
    (ha : DA X W (e :: es) ta ua) (hdb : (x == ("__debug__" : Str)) = false := by decide) (he : starEach (e :: es) X.env = (false, eval e X.env) :: starEach es X.env := by rfl) (hpl : (backTo pos (starEach es X.env)).any (·.1) = false := by rfl) :
    DE X W (.Call (.Name x q) (e :: es) [] pos) (tOf W (uHot N u ua)) (uHot N u ua) := de_of fun pins s sg H Q dl L S T K Xk I hE hs h hq hx => by
  obtain ⟨oc, od, dV, kV, doc, pm, an, cdv, ct, osl, rfl, lk, hcd, _, _⟩ := F.ex
  refine wpAny_Call_Name_kw (ld_glob I hg hm ?_ hdb)
  refine PySem.W.callWith_K (h₀ := X.base) I.ok.mod.kin F.kp (thn (ha.run.run pos pins s sg H (fun vs H1 => ∃ L1 ds S1, Lle L L1 ∧ Ls L1 vs ds ∧ SR H1 L1 S1 T ∧ ds.length = 1 ∧ (belows S1.length ds → belows S1.length S1 → u (endsOf S1 K fun _ _ => False) (startD N ds) S1)) I (ha.imp hE hs h (fun vs ds L1 H1 S1 l1 p1 s1 k1 => ⟨L1, ds, S1, l1, p1, s1, k1⟩) hx)) fun us s1 ⟨vs, H1, I1, r, q⟩ => ⟨I1.kIn, ?_⟩) he hpl
  obtain ⟨L1, ds, S1, l1, p1, hs1, hd1, hu⟩ := q
  have hvl : vs.length = 1 := by rw [p1.length]; exact hd1
  have P1 := I1.pin p (List.mem_append_left _ hp)
  have hpin : L2H.PinOk X.stack H1 s1 p := ⟨P1.1, P1.2.1, fun hm => (List.mem_cons.mp (I1.stkSub p.1 hm)).elim P1.2.2.1 P1.2.2.2.1, P1.2.2.2.2⟩
  have hb1 := hb s1 us I1.kIn (by rw [List.append_nil, ← r.length]; exact hvl)
  rw [List.append_nil] at hb1
  have rc := run_hot (CX := L2.CX X.prog X.w) (E := fun _ _ _ => False) (Q := fun v H' => ∃ L' d S', Lle L1 L' ∧ L' v d ∧ SR H' L' S' T ∧ K d S') lk hcd Sc hr hpin I1.env0 hb1 r hvl (by
    obtain ⟨t, ht⟩ := hbody cdv s1 H1 (hr.deeper _)
    refine ⟨t, ht.run, ht.imp (D := endsOf S1 K fun _ _ => False) (envIn_start p1) hs1 (hu (ls_belows hs1 p1) hs1.belows) ⟨?_, ?_, fun _ _ _ _ _ _ _ _ _ z => z.elim, fun _ _ _ _ _ _ _ _ _ z => z.elim, fun _ _ _ _ _ _ _ _ _ _ _ _ z => ?_⟩⟩
    · intro sg' dl' L' H' S' l hl he' hs' ⟨S2, d', o, rr, kk⟩
      obtain ⟨L2, l2, p2, s2⟩ := o.go rr hs1 (l.trans Ladd.le) (hs'.flat (d := .non) (v := .non) rfl) Ladd.here
      exact ⟨L2, d', S2, l2, p2, s2, kk⟩
    · intro v d L' H' S' l hp' hs' ⟨S2, d', o, rr, kk⟩
      obtain ⟨L2, l2, p2, s2⟩ := o.go rr hs1 l hs' hp'
      exact ⟨L2, d', S2, l2, p2, s2, kk⟩
    · obtain ⟨_, _, _, _, z⟩ := z
      exact z.elim)
  refine wpAny_call (codeAny_mono rc fun r s' hq' => ?_)
  cases r with
  | error e => exact (cx_none hq').elim
  | ok fl =>
    cases fl with
    | ret u =>
      obtain ⟨v, H', J⟩ := I1.after (show CE X.stack X.prog X.w H1 s1 _ u s' from hq')
      obtain ⟨J, rv, L', d, S', l2, p2, s2, kk⟩ := J
      exact ⟨v, H', J, rv, hq v d L' H' S' (l1.trans l2) p2 s2 kk⟩
    | next => exact False.elim hq'
    | brk => exact False.elim hq'
    | cont => exact False.elim hq'
end DL
/-! DY8: the laws' _law_field, _law_got, _law_all_got: readings, promises. -/
namespace DL
open PySem L2
theorem cells_ge : ∀ (names : List (Str × NameKind)) (n : Nat) (acc : List (Str × Addr)) {y : Str} {c : Addr}, (y, c) ∈ cellsFrom n names acc → (y, c) ∈ acc ∨ n ≤ c
  | [], _, _, _, _, h => .inl h
  | (x, k) :: r, n, acc, y, c, h => by
    unfold cellsFrom at h
    split at h
    · rcases cells_ge r (n + 1) _ h with q | q
      · rcases List.mem_cons.mp q with z | z
        · injection z with _ z
          subst z
          exact .inr (Nat.le_refl _)
        · exact .inl z
      · exact .inr (Nat.le_of_succ_le q)
    · exact cells_ge r n _ h
theorem cells_above {n : Nat} {names : List (Str × NameKind)} : ∀ y c, (cellsFrom (n + 1) names []).lookup y = some c → n ≤ c := fun y c e => by
  rcases cells_ge names (n + 1) [] (PySem.mem_of_lookup e) with q | q
  · cases q
  · exact Nat.le_of_succ_le q
/-- out of a def with nothing new in the store -/
theorem exit_same {S : Store} {K : KE} {d : Dat} (hb : below S.length d) (h : K d S) : ExitTo S K d S := ⟨S, d, ⟨⟨[], by simp⟩, Nat.le_refl _, .inl rfl⟩, .same hb, h⟩
def cs1 : List Str := ["InvalidAlphabet", "InvalidWord", "InvalidLetter", "InvalidState", "InvalidPrime", "InvalidSet"]
def cs2 : List Str := ["InvalidName", "InvalidLimit"]
def cs3 : List Str := ["InvalidRows", "InvalidLine"]
def cs4 : List Str := ["InvalidText", "InvalidPage"]
def cs5 : List Str := ["WrongKind", "UnknownName"]
/-- an error's fields, as the laws tell them -/
def fieldD (co : Str) (fs : List (Str × Dat)) : Option Dat :=
  if anyStr co (cs1.map Dat.str) = true then (fs.lookup ("given" : Str)).map fun x => .tup [x]
  else if anyStr co (cs2.map Dat.str) = true then (fs.lookup ("given" : Str)).map fun x => .tup [x]
  else if anyStr co (cs3.map Dat.str) = true then (fs.lookup ("at" : Str)).map fun x => .tup [x]
  else if anyStr co (cs4.map Dat.str) = true then (fs.lookup ("row" : Str)).map fun x => .tup [x]
  else if anyStr co (cs5.map Dat.str) = true then (fs.lookup ("name" : Str)).map fun x => .tup [x]
  else if co == ("TooMany" : Str) then (match fs.lookup ("subject" : Str), fs.lookup ("most" : Str) with
    | some x, some y => some (.tup [x, y])
    | _, _ => none)
  else some (.tup [])
def uCodeIn (a d : Addr) (ys : List Str) : UT := uTest (uOp (gIn id) (uXf a d "code" (uVar 0)) (uTup (ys.foldr (fun y u => uCons (uC (.str y)) u) uNil)))
def uF1 (a d : Addr) (f : Str) : US := uRet (uTup (uCons (uXf a d f (uVar 0)) uNil))
/-- _law_field's reading -/
def u_law_field (a d : Addr) : US :=
  uSeq (uIfS (uCodeIn a d cs1) (uF1 a d "given") uNext)
  (uSeq (uIfS (uCodeIn a d cs2) (uF1 a d "given") uNext)
  (uSeq (uIfS (uCodeIn a d cs3) (uF1 a d "at") uNext)
  (uSeq (uIfS (uCodeIn a d cs4) (uF1 a d "row") uNext)
  (uSeq (uIfS (uCodeIn a d cs5) (uF1 a d "name") uNext)
  (uRet (uIf (uTest (uOp gEq (uXf a d "code" (uVar 0)) (uC (.str "TooMany")))) (uTup (uCons (uXf a d "subject" (uVar 0)) (uCons (uXf a d "most" (uVar 0)) uNil))) (uTup uNil)))))))
section
variable {a d : Addr} {ns : List Str} {xs : List Dat} {co : Str} {dl : Env'} {S : Store} {D : DEnds}
theorem args_strs (ys : List Str) {K : List Dat → Store → Prop} {X : KX} : (ys.foldr (fun y u => uCons (uC (.str y)) u) uNil) dl S K X = K (ys.map Dat.str) S := by
  induction ys generalizing K with
  | nil => rfl
  | cons y r ih => exact ih
theorem xf_var {i : Nat} {f : Str} {y : Dat} {K : KE} {X : KX} (h0 : dl[i]? = some (some (.exv a d ns xs))) (hf : (ns.zip xs).lookup f = some y) (k : K y S) : uXf a d f (uVar i) dl S K X := by
  show uVar i dl S _ X
  unfold uVar
  rw [h0]
  exact ⟨rfl, rfl, y, hf, k⟩
theorem xf_at {f : Str} {y : Dat} {K : KE} {X : KX} (h0 : dl[0]? = some (some (.exv a d ns xs))) (hf : (ns.zip xs).lookup f = some y) (k : K y S) : uXf a d f (uVar 0) dl S K X := xf_var h0 hf k
theorem allStr_map : ∀ ys : List Str, allStr (ys.map Dat.str) = true
  | [] => rfl
  | y :: r => allStr_map r
theorem code_seq {ys : List Str} {A R : US} (h0 : dl[0]? = some (some (.exv a d ns xs))) (hc : (ns.zip xs).lookup ("code" : Str) = some (.str co)) (hl : ys.length ≤ sizeLine) (h : if anyStr co (ys.map Dat.str) = true then A { D with nx := R D } dl S else R D dl S) : uSeq (uIfS (uCodeIn a d ys) A uNext) R D dl S := by
  unfold uSeq uIfS uCodeIn uTest uOp
  refine xf_at h0 hc ?_
  unfold uTup
  dsimp only
  rw [args_strs]
  exact ⟨by rw [List.length_map]; exact hl, x_inTi (allStr_map ys) h⟩
theorem f1_at {f : Str} {y : Dat} (h0 : dl[0]? = some (some (.exv a d ns xs))) (hf : (ns.zip xs).lookup f = some y) (k : D.rt (.tup [y]) S) : uF1 a d f D dl S := by
  unfold uF1 uRet uTup uCons
  refine xf_at h0 hf ?_
  exact ⟨(by decide : 1 ≤ sizeLine), k⟩
theorem r_law_field {fd : Dat} (h0 : dl[0]? = some (some (.exv a d ns xs))) (hc : (ns.zip xs).lookup ("code" : Str) = some (.str co)) (hf : fieldD co (ns.zip xs) = some fd) (k : D.rt fd S) : u_law_field a d D dl S := by
  have one : ∀ {f : Str} {D' : DEnds}, D'.rt = D.rt → ((ns.zip xs).lookup f).map (fun x => Dat.tup [x]) = some fd → uF1 a d f D' dl S := fun {f D'} er e => by
    cases q : (ns.zip xs).lookup f with
    | none => rw [q] at e; cases e
    | some y =>
      rw [q] at e
      injection e with e
      subst e
      exact f1_at h0 q (by rw [er]; exact k)
  unfold fieldD at hf
  unfold u_law_field
  refine code_seq h0 hc (by decide) ?_
  split at hf
  · rename_i c
    rw [if_pos c]
    exact one rfl hf
  · rename_i c
    rw [if_neg c]
    refine code_seq h0 hc (by decide) ?_
    split at hf
    · rename_i c
      rw [if_pos c]
      exact one rfl hf
    · rename_i c
      rw [if_neg c]
      refine code_seq h0 hc (by decide) ?_
      split at hf
      · rename_i c
        rw [if_pos c]
        exact one rfl hf
      · rename_i c
        rw [if_neg c]
        refine code_seq h0 hc (by decide) ?_
        split at hf
        · rename_i c
          rw [if_pos c]
          exact one rfl hf
        · rename_i c
          rw [if_neg c]
          refine code_seq h0 hc (by decide) ?_
          split at hf
          · rename_i c
            rw [if_pos c]
            exact one rfl hf
          · rename_i c
            rw [if_neg c]
            unfold uRet uIf uTest uOp
            refine xf_at h0 hc ?_
            refine x_eqS ?_
            split at hf
            · rename_i c
              have e : co = ("TooMany" : Str) := by simpa using c
              show if decide (co = ("TooMany" : Str)) = true then _ else _
              rw [if_pos (decide_eq_true e)]
              split at hf
              · rename_i x y h1 h2
                injection hf with hf
                subst hf
                unfold uTup uCons
                refine xf_at h0 h1 (xf_at h0 h2 ?_)
                exact ⟨(by decide : 2 ≤ sizeLine), k⟩
              · cases hf
            · rename_i c
              have e : co ≠ ("TooMany" : Str) := by simpa using c
              show if decide (co = ("TooMany" : Str)) = true then _ else _
              rw [if_neg (by simpa using e)]
              injection hf with hf
              subst hf
              exact ⟨(by decide : 0 ≤ sizeLine), k⟩
end
/-- _law_got's reading: B the lambdas', mt the errors that it catches -/
def u_law_got (B : LamI → List (Str × Addr) → Option UB) (mt : Addr → Prop) : US :=
  uSeq (uSet 1 (uTup (uCons (uC (.str "")) (uCons (uC .non) uNil))))
  (uSeq (uTry mt (uSet 1 (uTup (uCons (uC (.str "")) (uCons (uAct B 0) uNil))))
      (fun a d _ => uSet 1 (uTup (uCons (uXf a d "code" (uVar 2)) (uCons (uHot ["_law_e"] (u_law_field a d) (uCons (uVar 2) uNil)) uNil)))) 2)
  (uRet (uVar 1)))
/-- what becomes of an error -/
def gotE (mt : Addr → Prop) (e : Exc) (S : Store) (K : Dat → Store → Prop) : Prop := mt e.C ∧ ∃ co fd, (e.ns.zip e.xs).lookup ("code" : Str) = some (.str co) ∧ fieldD co (e.ns.zip e.xs) = some fd ∧ (belows S.length e.xs → below S.length fd) ∧ K (.tup [.str co, fd]) S
def uGotSuite (a d : Addr) : US := uSet 1 (uTup (uCons (uXf a d "code" (uVar 2)) (uCons (uHot ["_law_e"] (u_law_field a d) (uCons (uVar 2) uNil)) uNil)))
/-- how _law_got goes on behind what it called -/
def kGot (S : Store) (K : KE) : KE := fun d S1 => 2 ≤ sizeLine ∧ 1 < 3 ∧ ExitTo S K (.tup [.str "", d]) S1
def xGot (mt : Addr → Prop) (S : Store) (K : KE) (X : KX) (l : LamI) (cl : List (Str × Addr)) : KX := fun e S1 => mt e.C ∧ ∀ a d, uGotSuite a d { nx := fun dl2 S2 => uRet (uVar 1) (endsOf S K X) (dl2.set 2 none) S2, rt := ExitTo S K, bk := fun _ _ => False, ct := fun _ _ => False } [some (.fn l cl), some (.tup [.str "", .non]), some (.exv a d e.ns e.xs)] S1
def sp_law_got (B : LamI → List (Str × Addr) → Option UB) (mt : Addr → Prop) : Spec := fun ds S K X => ∃ l cl b, ds = [.fn l cl] ∧ B l cl = some b ∧ b S (kGot S K) (xGot mt S K X l cl)
theorem len_law_got {B mt ds S K X} (h : sp_law_got B mt ds S K X) : ds.length = 1 := by
  obtain ⟨l, cl, b, rfl, _⟩ := h
  rfl
theorem r_law_got {B : LamI → List (Str × Addr) → Option UB} {mt : Addr → Prop} {ds : List Dat} {S : Store} {K : KE} {X : KX} (h : sp_law_got B mt ds S K X) : u_law_got B mt (endsOf S K X) (startD ["_law_ask", "_law_said", "_law_e"] ds) S := by
  obtain ⟨l, cl, b, rfl, hb, h⟩ := h
  refine ⟨(by decide : 2 ≤ sizeLine), (by decide : 1 < 3), ?_⟩
  show uAct B 0 [some (.fn l cl), some (.tup [.str "", .non]), none] S _ _
  exact ⟨b, hb, h⟩
theorem got_ok {S S1 : Store} {K : KE} {d : Dat} (h : ExitTo S K (.tup [.str "", d]) S1) : kGot S K d S1 := ⟨by decide, by decide, h⟩
theorem got_err {mt : Addr → Prop} {S S1 : Store} {K : KE} {X : KX} {l : LamI} {cl : List (Str × Addr)} {e : Exc} (h : gotE mt e S1 (ExitTo S K)) : xGot mt S K X l cl e S1 := by
  obtain ⟨hm, co, fd, h1, h2, h3, h4⟩ := h
  refine ⟨hm, fun a d => ?_⟩
  unfold uGotSuite uSet uTup uCons
  refine xf_var (i := 2) (ns := e.ns) (xs := e.xs) rfl h1 ?_
  refine ⟨rfl, fun hb _ => ?_⟩
  have hx : belows S1.length e.xs := by
    simp only [belows, below] at hb
    exact hb.1
  refine r_law_field (D := endsOf S1 _ fun _ _ => False) (dl := [some (.exv a d e.ns e.xs)]) rfl h1 h2 ?_
  refine exit_same (h3 hx) ?_
  exact ⟨(by decide : 2 ≤ sizeLine), (by decide : 1 < 3), h4⟩
/-! _law_all_got -/
def gotAll (B : LamI → List (Str × Addr) → Option UB) (mt : Addr → Prop) : List Dat → List Dat → Store → (List Dat → Store → Prop) → Prop
  | [], acc, S, G => G acc S
  | d :: r, acc, S, G => sp_law_got B mt [d] S (fun y S2 => gotAll B mt r (acc ++ [y]) S2 G) XF0
def u_law_all_got (B : LamI → List (Str × Addr) → Option UB) (mt : Addr → Prop) : US := uRet (uLc (uSeqI (uVar 0)) [1] (uName 1) uYes (uCall (sp_law_got B mt) [] (uCons (uVar 1) uNil)))
def sp_law_all_got (B : LamI → List (Str × Addr) → Option UB) (mt : Addr → Prop) : Spec := fun ds S K _ => ∃ fs, ds = [.lst fs] ∧ fs.length ≤ sizeLine ∧ gotAll B mt fs [] S fun acc S2 => ExitTo S K (.lst acc) S2
theorem len_law_all_got {B mt ds S K X} (h : sp_law_all_got B mt ds S K X) : ds.length = 1 := by
  obtain ⟨fs, rfl, _⟩ := h
  rfl
theorem r_law_all_got {B : LamI → List (Str × Addr) → Option UB} {mt : Addr → Prop} {ds : List Dat} {S : Store} {K : KE} {X : KX} (h : sp_law_all_got B mt ds S K X) : u_law_all_got B mt (endsOf S K X) (startD ["_law_asks", "_law_ask"] ds) S := by
  obtain ⟨fs, rfl, hl, h⟩ := h
  refine ⟨fs, rfl, ?_⟩
  refine ⟨fun j acc S2 => acc.length = j ∧ gotAll B mt (fs.drop j) acc S2 fun acc S2 => ExitTo S K (.lst acc) S2, ⟨rfl, h⟩, fun j d acc S2 hd hI => ?_, fun acc S2 hI => ?_⟩
  · obtain ⟨hj, hI⟩ := hI
    have hlt : j < fs.length := (List.getElem?_eq_some_iff.mp hd).1
    have hd2 : fs[j] = d := (List.getElem?_eq_some_iff.mp hd).2
    rw [List.drop_eq_getElem_cons hlt, hd2] at hI
    refine ⟨rfl, by rw [hj]; omega, ?_⟩
    refine ⟨(by decide : 1 < 2), ?_⟩
    show sp_law_got B mt [d] S2 _ _
    have e : (fun y S5 => (acc ++ [y]).length = j + 1 ∧ gotAll B mt (fs.drop (j + 1)) (acc ++ [y]) S5 fun acc S2 => ExitTo S K (.lst acc) S2) = fun y S5 => gotAll B mt (fs.drop (j + 1)) (acc ++ [y]) S5 fun acc S2 => ExitTo S K (.lst acc) S2 := by
      funext y S5
      simp [hj]
    rw [e]
    exact hI
  · obtain ⟨hj, hI⟩ := hI
    rw [List.drop_length] at hI
    exact ⟨rfl, hI⟩
end DL
/-! DY9: a def that makes lambdas keeps its promise: its reading speaks of its cells. -/
namespace DL
open PySem L2 PyProof.Rows
section
variable {P : Program} {w : World} {K : PySem.W.Frag} {mg : Str → Option Value} {base : Heap} {x qual : Str} {params : Arguments} {body : List Stmt} {scope : Scope} {dvs : List V} {kws : List (Str × V)} {f : Addr} {fd : FuncData} {N ps : List Str} {k : Nat}
theorem fnDL [Tabl] {G : Spec} {u : List (Str × Addr) → US} (F : FunD K x qual params body scope dvs kws f fd) (Sc : FnScope N ps scope) (len : ∀ ds S K X, G ds S K X → ds.length = ps.length)
    (hb : ∀ (c : Addr) (A : Around) (outer : List Env) (s : Shared) (H : Hp) (E : XK), (∀ p, He.fAd K p = f → He.codeOf K p = c) → Room k (A.deeper (envOfC qual scope s.heap.objs.size f (.ref c))) →
      Takes (cxOf (L2.CX P w) P w K mg base N qual scope f (.ref c) A outer s H E) (WE0 E) → ∃ t, DSs (cxOf (L2.CX P w) P w K mg base N qual scope f (.ref c) A outer s H E) (WE0 E) body t (u (cellsFrom (s.heap.objs.size + 1) scope.names [])))
    (hu : ∀ cl ds S K X, G ds S K X → belows S.length ds → belows S.length S → u cl (endsOf S K X) (startD N ds) S) : FnOk P w K mg base (L2.CX P w) (k + 1) f fd ps (spOf G) := by
  obtain ⟨oc, od, dV, kV, doc, pm, an, cdv, ct, osl, rfl, lk, hcd, _, _⟩ := F.ex
  obtain ⟨c, rfl⟩ := He.codeIn_ref hcd
  have hc : ∀ p, He.fAd K p = f → He.codeOf K p = c := fun p e => He.codeOf_eq (p := p) (by rw [e]; exact lk) rfl
  refine fn_of lk hcd Sc (fun vs H Q E h => ?_) (fun A outer s H vs Q E hr h => ?_)
  · obtain ⟨ds, L, S, T, K', X, p, _, g, _⟩ := h
    rw [p.length]
    exact len ds S K' X g
  · have tk : Takes (cxOf (L2.CX P w) P w K mg base N qual scope f (.ref c) A outer s H E) (WE0 E) := takes_of rfl rfl rfl rfl
    obtain ⟨t, ht⟩ := hb c A outer s H E hc hr tk
    refine ⟨t, ht.run, ?_⟩
    obtain ⟨ds, L, S, T, K', X, p, hs, g, hq, hx⟩ := h
    refine ht.imp (D := endsOf S K' X) (envIn_start p) hs (hu _ ds S K' X g (ls_belows hs p) hs.belows) ⟨?_, ?_, fun _ _ _ _ _ _ _ _ _ z => z.elim, fun _ _ _ _ _ _ _ _ _ z => z.elim, ?_⟩
    · intro sg' dl' L' H' S' l hl he' hs' ⟨S2, d', o, rr, kk⟩
      obtain ⟨L2, l2, p2, s2⟩ := o.go rr hs (l.trans Ladd.le) (hs'.flat (d := .non) (v := .non) rfl) Ladd.here
      exact hq _ _ _ _ _ l2 p2 s2 kk
    · intro v d L' H' S' l hp' hs' ⟨S2, d', o, rr, kk⟩
      obtain ⟨L2, l2, p2, s2⟩ := o.go rr hs l hs' hp'
      exact hq _ _ _ _ _ l2 p2 s2 kk
    · intro e dd sg' dl' L' H' S' l hl he' hd hs' ⟨S2, ys, o, rr, kk⟩
      obtain ⟨L2, l2, p2, s2⟩ := o.go rr hs l hs' hd
      exact hx ⟨e.C, e.ns, ys⟩ dd L2 H' S2 l2 p2 s2 kk
end
end DL
/-! DY10: a lambda of the text, found by its path. -/
namespace DL
open PySem L2
def noE : Expr := .Constant .none 0 ⟨0, 0, 0, 0⟩
/-- the statements within; the ones of an else -/
def subB : Stmt → List Stmt
  | .FunctionDef _ _ b .. => b
  | .For _ _ b .. => b
  | .While _ b .. => b
  | .If _ b .. => b
  | .Try b .. => b
  | _ => []
def subO : Stmt → List Stmt
  | .For _ _ _ b _ => b
  | .While _ _ b _ => b
  | .If _ _ b _ => b
  | _ => []
/-- what a statement looks at first -/
def subE : Stmt → Expr
  | .Return (some e) _ => e
  | .Assign _ e _ => e
  | .Expr e _ => e
  | .If e _ _ _ => e
  | .While e _ _ _ => e
  | .For _ e _ _ _ => e
  | _ => noE
/-- the i-th part of an expression -/
def part : Expr → Nat → Expr
  | .BoolOp _ es _, i => es.getD i noE
  | .BinOp a _ b _, i => if i = 0 then a else b
  | .UnaryOp _ a _, _ => a
  | .IfExp a b c _, i => if i = 0 then a else if i = 1 then b else c
  | .Compare a _ es _, i => (a :: es).getD i noE
  | .Call f es _ _, i => (f :: es).getD i noE
  | .Attribute a _ _, _ => a
  | .Subscript a b _, i => if i = 0 then a else b
  | .Starred a _, _ => a
  | .List es _, i => es.getD i noE
  | .Tuple es _ _, i => es.getD i noE
  | _, _ => noE
def lamA : Expr → Arguments
  | .Lambda a .. => a
  | _ => ⟨[], [], none, [], [], none, []⟩
def lamE : Expr → Expr
  | .Lambda _ e _ _ => e
  | _ => noE
def lamS : Expr → Scope
  | .Lambda _ _ s _ => s
  | _ => { kind := .function, names := [], isGenerator := false, isCoroutine := false }
def stAt (b : List Stmt) (i : Nat) : Stmt := b.getD i (.Pass ⟨0, 0, 0, 0⟩)
def lamOf (id : Nat) (q : Str) (par : Option Str) (e : Expr) : LamI := ⟨id, q, lamA e, lamE e, lamS e, par⟩
open Classical in
/-- a table of lambdas, one behind the other -/
noncomputable def lamTab (cl : List (Str × Addr)) : List (LamI × UB) → LamI → List (Str × Addr) → Option UB
  | [], _, _ => none
  | (l, b) :: r, l', cl' => if l' = l ∧ cl' = cl then some b else lamTab cl r l' cl'
open Classical in
theorem lamTab_cases {cl : List (Str × Addr)} : ∀ {t : List (LamI × UB)} {l : LamI} {cl' : List (Str × Addr)} {b : UB}, lamTab cl t l cl' = some b → cl' = cl ∧ (l, b) ∈ t
  | [], _, _, _, h => by cases h
  | (l0, b0) :: r, l, cl', b, h => by
    unfold lamTab at h
    by_cases e : l = l0 ∧ cl' = cl
    · rw [if_pos e] at h
      injection h with h
      subst h
      exact ⟨e.2, by rw [e.1]; exact List.mem_cons_self⟩
    · rw [if_neg e] at h
      obtain ⟨h1, h2⟩ := lamTab_cases h
      exact ⟨h1, List.mem_cons_of_mem _ h2⟩
open Classical in
theorem lamTab_here {cl : List (Str × Addr)} {l : LamI} {b : UB} {r : List (LamI × UB)} : lamTab cl ((l, b) :: r) l cl = some b := by
  unfold lamTab
  rw [if_pos ⟨rfl, rfl⟩]
open Classical in
theorem lamTab_next {cl : List (Str × Addr)} {l l' : LamI} {b b' : UB} {r : List (LamI × UB)} (n : l'.id ≠ l.id) (h : lamTab cl r l' cl = some b') : lamTab cl ((l, b) :: r) l' cl = some b' := by
  unfold lamTab
  rw [if_neg fun e => n (by rw [e.1])]
  exact h
/-- a lambda of a def: its names, the captured ones, where they stand in the def, its body's reading -/
structure LamRow where
  l : LamI
  N : List Str
  fr : List Str
  js : List Nat
  u : UE
def LamRow.ub (r : LamRow) (dl : Env') : UB := fun S K X => r.u (startL r.l r.N (r.js.map (slotD dl))) S K X
noncomputable def rowsTab (cl : List (Str × Addr)) (rows : List LamRow) (dl : Env') : LamI → List (Str × Addr) → Option UB := lamTab cl (rows.map fun r => (r.l, r.ub dl))
/-- what is asked of a row in the def's frame X -/
structure RowOk (tb : List (Addr × Str)) (k : Nat) (X : Cx) (r : LamRow) : Prop where
  lk : LamK r.l r.N r.fr
  js : r.js.map (fun j => X.N[j]?) = r.fr.map some
  fr : ∀ y ∈ r.fr, (y, NameKind.free) ∈ r.l.scope.names
  free : ∀ y ∈ r.l.scope.names, y.2 = .free → X.env.scope.names.lookup y.1 = some .cell ∨ X.env.scope.names.lookup y.1 = some .free
  body : ∀ (A : Around) (outer : List Env) (s : Shared) (H : Hp) (E : XK) (f c : Addr), Room k (A.deeper (NdefX.envF (nfOf r.l X.env.cells c) f s.heap.objs.size)) →
      ∃ t, @DE (bas tb) (NdefX.ncx (L2.CX X.prog X.w) X.prog X.w X.K X.mg X.base r.N (nfOf r.l X.env.cells c) f A outer s H E) (WE0 E) r.l.body t r.u
theorem frame_rows {tb : List (Addr × Str)} {k : Nat} {X : Cx} {cl : List (Str × Addr)} {rows : List LamRow} (hcl : X.env.cells = cl) (h : ∀ r ∈ rows, RowOk tb k X r) : FrameTab tb k X (rowsTab cl rows) := by
  subst hcl
  refine ⟨fun dl l cl b hb => ?_⟩
  obtain ⟨h1, h2⟩ := lamTab_cases hb
  obtain ⟨r, hr, e⟩ := List.mem_map.mp h2
  injection e with e1 e2
  subst e1 e2 h1
  have q := h r hr
  exact ⟨rfl, r.N, r.fr, r.js, r.u, q.lk, q.js, q.fr, q.free, rfl, q.body⟩
theorem rows_nil {tb : List (Addr × Str)} {k : Nat} {X : Cx} : ∀ r ∈ ([] : List LamRow), RowOk tb k X r := fun _ h => by cases h
theorem rows_cons {tb : List (Addr × Str)} {k : Nat} {X : Cx} {r : LamRow} {rs : List LamRow} (h : RowOk tb k X r) (t : ∀ r ∈ rs, RowOk tb k X r) : ∀ q ∈ r :: rs, RowOk tb k X q := fun q hq => by
  rcases List.mem_cons.mp hq with e | e
  · subst e; exact h
  · exact t q e
end DL
/-! DY11: x in y, y an instance with its own __contains__. -/
namespace DL
open PySem PySem.Spec L2 PyProof.Rows
def rOf [Tabl] (g : G2) : R2 := fun x y H Q => ∃ dx dy L S T K, SR H L S T ∧ L x dx ∧ L y dy ∧ g dx dy S K ∧ EOk L T K Q
theorem rOf_imp [Tabl] {g : G2} : OpI (rOf g) g := fun {x y dx dy L H S T K Q} hs px py h hq => ⟨dx, dy, L, S, T, K, hs, px, py, h, hq⟩
def gInO (MS : List (Addr × Spec)) (f : Bool → Bool) : G2 := fun x y S K => ∃ C ns xs F, insD S y = some (C, ns, xs) ∧ (C, F) ∈ MS ∧ F [y, x] S (fun d S1 => match d with
  | .bl b => K (.bl (f b)) S1
  | _ => False) fun _ _ => False
theorem in_own [Tabl] {X : Cx} {MS : List (Addr × Spec)} {k j : Nat} {ps : List Str} {fb : Bool → Bool} {op : CmpOp} (hop : (op = .In ∧ fb = id) ∨ (op = .NotIn ∧ fb = not)) (hM : ∀ q ∈ MS, MethV X.prog X.w X.K X.mg X.base k "__contains__" ps [] [] q.1 q.2) (hr : Room j X.A) (hj : k ≤ j) : OpR X (compareOp op) (rOf (gInO MS fb)) := by
  intro pins s sg H x y v u Q I rx ry ⟨dx, dy, L, S, T, K, hs, px, py, ⟨C, ns, xs, F, hi, hm, hF⟩, hq⟩
  obtain ⟨b, dd, vs, rfl, hb, _, _, _⟩ := hs.insOf py hi
  obtain rfl : u = Value.ref b := ry
  obtain ⟨f, fd, dl, c, M, G, hb1, vd, _⟩ := hM _ hm
  obtain ⟨_, _, _, ho, mA, hns, _⟩ := I.hok b _ hb
  obtain ⟨od, J, _⟩ := ObjM.look (h := s.heap) (x := b) (dx := dd) (C := C) (mA := mA) (by constructor <;> assumption)
  have key : ∀ {Q1 : Bool → Shared → Prop}, (∀ bb s1, (∃ H1 L1 S1, Inv X pins sg H1 s1 ∧ Lle L L1 ∧ SR H1 L1 S1 T ∧ K (.bl (fb bb)) S1) → Q1 bb s1) → wpAny (model X.prog X.w) X.A (contains (.ref b) v) Q1 X.xe s := fun {Q1} hQ => by
    unfold contains
    refine wpAny_holding (wpAny_bind (wpAny_bind (J.type.here ((PySem.W.looks_findIn I.kIn M.at_).here ?_))))
    rw [if_neg (by simp)]
    refine wpAny_bind (PySem.W.unlessNone_K I.kIn J M.at_ M.fn ?_)
    have hvd : dl = [] := by cases vd; rfl
    subst hvd
    refine wpAny_mono (run_fn (E := fun _ _ _ => False) (Q := fun r H1 => ∃ bb L1 S1, r = .bl bb ∧ Lle L L1 ∧ SR H1 L1 S1 T ∧ K (.bl (fb bb)) S1) (G.mono (Nat.le_refl _)) (hr.mono hj) hb1 vd (fun _ _ _ _ _ _ _ z => (cx_none z).elim) I (us := [.ref b, v]) (vs := [.ref b, x]) (.cons rfl (.cons rx .nil)) ?_) (fun r s1 hh => ?_) fun _ _ z => z
    · refine ⟨[dy, dx], L, S, T, _, _, ⟨py, px, True.intro⟩, hs, hF, fun v' d' L' H' S' l' p' s' k' => ?_, fun _ _ _ _ _ _ _ _ z => z.elim⟩
      cases d' with
      | bl bb =>
        obtain ⟨rho, z⟩ := id s'
        have q := z.rd _ _ p'
        simp only [RD] at q
        exact ⟨bb, L', S', q, l', s', k'⟩
      | _ => exact k'.elim
    · obtain ⟨r', H1, I1, rv, bb, L1, S1, e, l1, s1', k1⟩ := hh
      subst e
      obtain rfl : r = Value.bool bb := rv
      exact wpAny_truthy_bool (hQ bb s1 ⟨H1, L1, S1, I1, l1, s1', k1⟩)
  have fin : ∀ {bb : Bool} {s1 : Shared}, (∃ H1 L1 S1, Inv X pins sg H1 s1 ∧ Lle L L1 ∧ SR H1 L1 S1 T ∧ K (.bl (fb bb)) S1) → EP X pins sg Q (.bool (fb bb)) s1 := fun {bb s1} ⟨H1, L1, S1, I1, l1, s1', k1⟩ =>
    ⟨.bl (fb bb), H1, I1, rfl, hq (.bl (fb bb)) (.bl (fb bb)) (Ladd L1 _ _) H1 S1 (l1.trans Ladd.le) Ladd.here (s1'.flat rfl) k1⟩
  rcases hop with ⟨rfl, rfl⟩ | ⟨rfl, rfl⟩
  · exact wpAny_bind (key fun bb s1 h => wpAny_pure (fin h))
  · exact wpAny_bind (key fun bb s1 h => wpAny_pure (fin h))
end DL
/-! DY12: making and calling with keywords. -/
namespace DL
open PySem PySem.Spec L2 PyProof.Rows
theorem dk_nil [Tabl] {X : Cx} {W : WX} : DK X W [] tNil uNil := ⟨pk_nil, (da_nil (X := X)).imp⟩
theorem dk_cons [Tabl] {X : Cx} {W : WX} {nm : Option Str} {e : Expr} {kpos : Pos} {kws : List Keyword} {te : TE} {ue : UE} {t : TA} {u : UA} (ha : DE X W e te ue) (hr : DK X W kws t u) : DK X W (⟨nm, e, kpos⟩ :: kws) (tCons te t) (uCons ue u) := ⟨pk_cons ha.run hr.run, imp_cons ha.imp hr.imp⟩
/-- C(.., k = v): n written values, m keywords; gD: how they lie -/
def uMakeK (C : Addr) (F : Spec) (n m : Nat) (gD : List Dat → List Dat → List Dat) (ua uk : UA) : UE := fun dl S K X => ua dl S (fun ds S1 => uk dl S1 (fun es S2 => ds.length = n ∧ es.length = m ∧ F (gD (.cell S2.length :: ds) es) (S2 ++ [.ins C [] []]) (fun d S3 => d = .non ∧ ExitTo S2 K (.cell S2.length) S3) (fun e S3 => ExitX S2 X e [] S3)) X) X
/-- how values lie: the written ones, constants, the keywords' -/
def gAp (dd : List Dat) (ds es : List Dat) : List Dat := ds ++ (dd ++ es)
def gApV (dv : List V) (ds es : List V) : List V := ds ++ (dv ++ es)
theorem ap_ok [Tabl] {dd : List Dat} {dv : List V} (h : Flats dd dv) {H L S T} {vs : List V} {ds : List Dat} {zs : List V} {es : List Dat} (hs : SR H L S T) (p : Ls L vs ds) (q : Ls L zs es) : ∃ L', Lle L L' ∧ Ls L' (gApV dv vs zs) (gAp dd ds es) ∧ SR H L' S T := by
  obtain ⟨L2, l2, p2, s2⟩ := hs.flats h
  exact ⟨L2, l2, (p.le l2).append (p2.append (q.le l2)), s2⟩
section
variable {X : Cx} {W : WX} {k j n : Nat} {x : Str} {ps ks : List Str} {e : Expr} {es : List Expr} {kws : List Keyword} {t tk' : TA} {u uk : UA} {pos p : Pos} {gV : List V → List V → List V} {gD : List Dat → List Dat → List Dat} {C : Addr} {F : Spec}
theorem run_mkK {f : Addr} {fd : FuncData} {sp : Sp} {g : List Value → List Value → List Value} {Ex : XK} {pins : List (Addr × Obj)} {sg : L2.St} {H : Hp} {s : Shared} {Q : VK} {us ws : List Value} {vs zs : List V} (M : Mk X.K C f) (G : FnOk X.prog X.w X.K X.mg X.base (L2.CX X.prog X.w) k f fd ps sp) (hr : Room (k + 1) X.A) (b : KBn X.K fd ps (n + 1) ks g gV)
    (hx : PassesAt (L2.CX X.prog X.w) X sg Ex) (I : Inv X pins sg H s) (r : Vals vs us) (rz : Vals zs ws) (l1 : vs.length = n) (l2 : zs.length = ks.length) (h : ∀ x dx, H x = none → H dx = none → dx ≠ x → sp (gV (.ref x :: vs) zs) (upd (upd H dx (.own x)) x (.ins C dx [])) (fun v H2 => v = .non ∧ Q (.ref x) H2) Ex) :
    wpAny (model X.prog X.w) X.A (call (.ref C) us (ks.zip ws)) (EP X pins sg Q) X.xe s := by
  have J := Inv.made (C := C) I
  have hq := h _ _ (I.hok.fresh (Nat.le_succ _)) (I.hok.fresh (Nat.le_refl _)) (Nat.ne_of_lt (Nat.lt_succ_self _))
  have r1 : Vals (V.ref (s.heap.objs.size + 1) :: vs) (Value.ref (s.heap.objs.size + 1) :: us) := .cons rfl r
  have e1 : (Value.ref (s.heap.objs.size + 1) :: us).length = n + 1 := r1.length.symm.trans (congrArg Nat.succ l1)
  have e2 : ws.length = ks.length := rz.length.symm.trans l2
  have go := G.run _ X.stack _ _ ⟨Value.ref (s.heap.objs.size + 1) :: us, ks.zip ws⟩ (g (Value.ref (s.heap.objs.size + 1) :: us) ws) _ _ Ex (hr.make C us (ks.zip ws)) (J.env0.make C us (ks.zip ws)) (b.to _ (Value.ref (s.heap.objs.size + 1) :: us) ws J.kIn e1 e2) (b.rel r1 rz) hq
  refine wpAny_call (make_map (f := f) I.kIn M.makes M.init (beq_iff_eq.mp M.fn) (codeAny_mono go fun res s' z => ?_))
  cases res with
  | error er => exact hx pins _ _ er s' J z
  | ok fl =>
    cases fl with
    | ret u =>
      obtain ⟨v, H', J2, rv, ev, q3⟩ := J.after z
      subst ev
      exact ⟨rv, V.ref (s.heap.objs.size + 1), H', J2, rfl, q3⟩
    | _ => exact z.elim
theorem de_makeK [Tabl] (c : MakeKV X.prog X.w X.K X.mg X.base k ps (n + 1) ks gV gD C F) (hgc : ∀ a ds es, ∃ r, gD (a :: ds) es = a :: r ∧ ∀ b, gD (b :: ds) es = b :: r) (hgv : ∀ a ds es, ∃ r, gV (a :: ds) es = a :: r ∧ ∀ b, gV (b :: ds) es = b :: r) (hr : Room j X.A) (hj : k + 1 ≤ j) (hm : X.mg x = some (.ref C)) (tk : Takes X W) (ha : DA X W (e :: es) t u) (hk : DK X W kws tk' uk) (hg : Gl X x := by rfl)
    (hall : (backToKw pos (keywordEach kws X.env)).all (·.1.isSome) = true := by rfl) (hks : (backToKw pos (keywordEach kws X.env)).filterMap (·.1) = ks := by rfl)
    (hdb : (x == ("__debug__" : Str)) = false := by decide) (he : starEach (e :: es) X.env = (false, eval e X.env) :: starEach es X.env := by rfl)
    (hpl : ((backTo pos (starEach (e :: es) X.env)).any (·.1) || (backToKw pos (keywordEach kws X.env)).any (·.1.isNone)) = false := by rfl) :
    DE X W (.Call (.Name x p) (e :: es) kws pos) (tOf W (uMakeK C F n ks.length gD u uk)) (uMakeK C F n ks.length gD u uk) := de_of fun pins s sg H Q dl L S T K Xk I hE hs h hq hx => by
  obtain ⟨f, fd, g, M, G, b, hgi⟩ := c
  refine wpAny_Call_Name_kw (ld_glob I hg hm ?_ hdb)
  refine PySem.W.callWith_KW (h₀ := X.base) I.ok.mod.kin M.kp hall (thn (ha.run.run pos pins s sg H (fun vs H1 => ∃ L1 ds S1, Lle L L1 ∧ Ls L1 vs ds ∧ SR H1 L1 S1 T ∧ uk dl S1 (fun es S2 => ds.length = n ∧ es.length = ks.length ∧ F (gD (.cell S2.length :: ds) es) (S2 ++ [.ins C [] []]) (fun d S3 => d = .non ∧ ExitTo S2 K (.cell S2.length) S3) (fun e S3 => ExitX S2 Xk e [] S3)) Xk) I (ha.imp hE hs h (fun vs ds L1 H1 S1 l1 p1 s1 k1 => ⟨L1, ds, S1, l1, p1, s1, k1⟩) hx)) fun us s1 ⟨vs, H1, I1, r, q⟩ => ?_) hpl he
  obtain ⟨L1, ds, S1, l1, p1, hs1, hk1⟩ := q
  refine thn (hk.run.run pos pins s1 sg H1 (fun zs H2 => ∃ L2 es S2, Lle L1 L2 ∧ Ls L2 zs es ∧ SR H2 L2 S2 T ∧ ds.length = n ∧ es.length = ks.length ∧ F (gD (.cell S2.length :: ds) es) (S2 ++ [.ins C [] []]) (fun d S3 => d = .non ∧ ExitTo S2 K (.cell S2.length) S3) (fun e S3 => ExitX S2 Xk e [] S3)) I1 (hk.imp (hE.le l1) hs1 hk1 (fun zs es L2 H2 S2 l2 p2 s2 k2 => ⟨L2, es, S2, l2, p2, s2, k2⟩) (hx.le l1))) fun ws s2 ⟨zs, H2, I2, rz, q2⟩ => ⟨I2.kIn, ?_⟩
  obtain ⟨L2, es', S2, l2, p2, hs2, n1, n2, hF⟩ := q2
  rw [hks]
  refine run_mkK M G (hr.mono hj) b (passAt tk sg) I2 r rz (by rw [p1.length]; exact n1) (by rw [p2.length]; exact n2) fun x0 dx nx nd ne => ?_
  obtain ⟨r0, e1, e2⟩ := hgc (.cell S2.length) ds es'
  obtain ⟨rv, e3, e4⟩ := hgv (.ref x0) vs zs
  obtain ⟨L3, l3, p3, s3⟩ := hgi (hs2.flat (d := .non) (v := .non) rfl) (vs := .non :: vs) (ds := .non :: ds) ⟨Ladd.here, (p1.le l2).le Ladd.le⟩ (p2.le Ladd.le)
  rw [e4, e2] at p3
  rw [e1] at hF
  rw [e3]
  exact made_imp s3 p3.2 hF (hq.le (((l1.trans l2).trans Ladd.le).trans l3)) (hx.le (((l1.trans l2).trans Ladd.le).trans l3)) nx nd ne
end
theorem gAp_c {dd : List Dat} : ∀ a ds es, ∃ r, gAp dd (a :: ds) es = a :: r ∧ ∀ b, gAp dd (b :: ds) es = b :: r := fun a ds es => ⟨ds ++ (dd ++ es), rfl, fun _ => rfl⟩
theorem gApV_c {dv : List V} : ∀ a ds es, ∃ r, gApV dv (a :: ds) es = a :: r ∧ ∀ b, gApV dv (b :: ds) es = b :: r := fun a ds es => ⟨ds ++ (dv ++ es), rfl, fun _ => rfl⟩
section
variable {dl : Env'} {S : Store} {K : KE} {X : KX} {C : Addr} {F : Spec} {n m : Nat} {gD : List Dat → List Dat → List Dat} {ua uk : UA}
theorem x_makeK (h : ua dl S (fun ds S1 => uk dl S1 (fun es S2 => ds.length = n ∧ es.length = m ∧ F (gD (.cell S2.length :: ds) es) (S2 ++ [.ins C [] []]) (fun d S3 => d = .non ∧ ExitTo S2 K (.cell S2.length) S3) (fun e S3 => ExitX S2 X e [] S3)) X) X) : uMakeK C F n m gD ua uk dl S K X := h
end
end DL
/-! DY13: further methods of lists. -/
namespace DL
open PySem L2
def gClear : GM := fun d ds S K => match d, ds with
  | .cell n, [] => ∃ xs, S[n]? = some (.lst xs) ∧ K .non (S.set n (.lst []))
  | _, _ => False
theorem dmt_clear [Tabl] {X : Cx} : DMt X "list.clear" rClear gClear := ⟨mt_clear, fun {x dx xs ds L H S T K Q} hs p ps h hq => by
  unfold gClear at h
  split at h
  · rename_i n
    obtain ⟨zs, e, h⟩ := h
    obtain rfl : xs = [] := by
      cases xs with
      | nil => rfl
      | cons _ _ => exact ps.elim
    obtain ⟨a, vs, rfl, e1, s1, p1⟩ := hs.list (d := .cell n) p e
    have s2 := s1.set (a := a) (n := n) (o := .lst []) (d := .lst []) (LaddL.le _ _ p) rfl (vs := []) True.intro
    exact ⟨a, vs, rfl, rfl, e1, hq.le LaddL.le |>.flat s2 (d := .non) rfl h⟩
  · exact h.elim⟩
theorem x_clear {S : Store} {K : KE} {n : Nat} {xs : List Dat} (e : S[n]? = some (.lst xs)) (k : K .non (S.set n (.lst []))) : gClear (.cell n) [] S K := ⟨xs, e, k⟩
/-- the errors that a law's helper catches -/
def mtC (errs : List Str) (K : PySem.W.Frag) : Addr → Prop := fun C => ∃ x ∈ errs, C = He.ga K x
end DL
namespace DL
open PySem PySem.Spec L2 DX
section
variable {P : Program} {w : World} {K : PySem.W.Frag} {mg : Str → Option Value} {base : Heap} {CX : CXT} {k : Nat} {f C : Addr} {fd : FuncData} {ps : List Str} {sp sp' : Sp} {nf : List (Str × Fs)} {n : Nat} {c1 c2 : List V → Prop}
theorem FnOk.imp (F : FnOk P w K mg base CX k f fd ps sp) (h : ∀ vs H Q E, sp' vs H Q E → sp vs H Q E) : FnOk P w K mg base CX k f fd ps sp' :=
  ⟨fun vs H Q E q => F.len _ _ _ _ (h _ _ _ _ q), fun A outer s H args us vs Q E hr e0 hb r q => F.run A outer s H args us vs Q E hr e0 hb r (h _ _ _ _ q)⟩
theorem FnOk.ini (F : FnOk P w K mg base CX k f fd ps (spIni C nf n c1)) (h : ∀ ws, c2 ws → c1 ws) : FnOk P w K mg base CX k f fd ps (spIni C nf n c2) :=
  F.imp fun vs H Q E ⟨a, ws, ys, e, l, hc, r⟩ => ⟨a, ws, ys, e, l, h _ hc, r⟩
end
theorem one_free {ns : List (Str × NameKind)} {z : Str} (h : (ns.all fun y => !decide (y.2 = .free) || decide (y.1 = z)) = true) {y : Str} (e : ns.lookup y = some .free) : y = z := by
  have := List.all_eq_true.mp h (y, .free) (PySem.mem_of_lookup e)
  simpa using this
theorem tb_only {a : Addr} {q : Str} : ∀ p ∈ [(a, q)], p.1 = a → p.2 = q := fun p hp _ => by
  rw [List.mem_singleton.mp hp]
end DL
/-! DY14: steps: errors that leave a def. -/
namespace DL
open PySem L2 DX
theorem exitX_here {S0 : Store} {X : KX} {e : Exc} {dl : Env'} (hb : belows S0.length e.xs) (k : X e S0) : ExitX S0 X e dl S0 := ⟨S0, e.xs, ⟨⟨[], by simp⟩, Nat.le_refl _, .inl rfl⟩, .same (by simp only [below]; exact hb), k⟩
theorem exitX_pure {S0 R : Store} {X : KX} {e : Exc} {dl : Env'} (hb : belows S0.length e.xs) (k : X e S0) : ExitX S0 X e dl (S0 ++ R) := ⟨S0, e.xs, ⟨⟨R, rfl⟩, Nat.le_refl _, .inl rfl⟩, .same (by simp only [below]; exact hb), k⟩
section
variable {dl : Env'} {S : Store} {D : DEnds} {C : Addr} {c f g : Str} {y z : Dat} {KX' : KX}
/-- raise C(y): its code, its field -/
theorem x_rz1 (h : D.ex ⟨C, ["code", f], [.str c, y]⟩ dl S) : ([y] : List Dat).length = 1 ∧ condD false [y] ∧ ∃ xs, FD [y] (([("code", .c c), (f, .a 0)] : List (Str × Fs)).map (·.2)) xs ∧ D.ex ⟨C, ([("code", .c c), (f, .a 0)] : List (Str × Fs)).map (·.1), xs⟩ dl S :=
  ⟨rfl, (fun h => by cases h), [.str c, y], ⟨rfl, rfl, True.intro⟩, h⟩
theorem x_rz0 (h : D.ex ⟨C, ["code"], [.str c]⟩ dl S) : ([] : List Dat).length = 0 ∧ condD false [] ∧ ∃ xs, FD [] (([("code", .c c)] : List (Str × Fs)).map (·.2)) xs ∧ D.ex ⟨C, ([("code", .c c)] : List (Str × Fs)).map (·.1), xs⟩ dl S :=
  ⟨rfl, (fun h => by cases h), [.str c], ⟨rfl, True.intro⟩, h⟩
theorem x_rz2 {s : Str} (hs : s.length ≤ 1000) (h : D.ex ⟨C, ["code", g, f], [.str c, z, .str s]⟩ dl S) : ([.str s, z] : List Dat).length = 2 ∧ condD true [.str s, z] ∧ ∃ xs, FD [.str s, z] (([("code", .c c), (g, .a 1), (f, .a 0)] : List (Str × Fs)).map (·.2)) xs ∧ D.ex ⟨C, ([("code", .c c), (g, .a 1), (f, .a 0)] : List (Str × Fs)).map (·.1), xs⟩ dl S :=
  ⟨rfl, (fun _ => ⟨s, rfl, hs⟩), [.str c, z, .str s], ⟨rfl, rfl, rfl, True.intro⟩, h⟩
end
end DL
/-! DY15: a list times a number. -/
namespace DL
open PySem L2
def rep {α : Type} (n : Nat) (xs : List α) : List α := (List.replicate n xs).flatten
theorem rep_ls {L : LL} {vs : List V} {ds : List Dat} (h : Ls L vs ds) : ∀ n, Ls L (rep n vs) (rep n ds)
  | 0 => True.intro
  | n + 1 => by
    unfold rep
    rw [List.replicate_succ, List.replicate_succ, List.flatten_cons, List.flatten_cons]
    exact h.append (rep_ls h n)
theorem rep_one {α : Type} (n : Nat) (x : α) : rep n [x] = List.replicate n x := by
  unfold rep
  induction n with
  | zero => rfl
  | succ n ih => rw [List.replicate_succ, List.flatten_cons, ih, List.replicate_succ]; rfl
def gRep (g : List Dat → Store → KE → Prop) : G2 := fun x y S K => match y with
  | .int k => ∃ xs, lstD S x = some xs ∧ -(2 ^ 63) ≤ k ∧ k < 2 ^ 63 ∧ xs.length * k.toNat ≤ sizeLine ∧ g (rep k.toNat xs) S K
  | _ => False
abbrev kT : List Dat → Store → KE → Prop := fun xs S K => K (.lst xs) S
abbrev kC : List Dat → Store → KE → Prop := fun xs S K => K (.cell S.length) (S ++ [.lst xs])
theorem dop_repT [Tabl] {X : Cx} : DOp X (binaryOp .Mult) rRep (gRep kT) := ⟨op_rep, fun {x y dx dy L H S T K Q} hs px py h hq => by
  cases dy with
  | int k =>
    obtain ⟨xs, e, h1, h2, h3, h⟩ := h
    obtain ⟨a, vs, rfl, g1, s1, p1⟩ := hs.list px (lstD_view e)
    exact ⟨a, k, vs, rfl, hs.vint py, g1, h1, h2, by rw [p1.length]; exact h3, fun p hp => hq _ _ _ _ S (LaddL.le.trans Ladd.le) Ladd.here (s1.lst hp (rep_ls p1 _)) h⟩
  | _ => exact h.elim⟩
theorem dop_repC [Tabl] {X : Cx} : DOp X (binaryOp .Mult) rRep (gRep kC) := ⟨op_rep, fun {x y dx dy L H S T K Q} hs px py h hq => by
  cases dy with
  | int k =>
    obtain ⟨xs, e, h1, h2, h3, h⟩ := h
    obtain ⟨a, vs, rfl, g1, s1, p1⟩ := hs.list px (lstD_view e)
    exact ⟨a, k, vs, rfl, hs.vint py, g1, h1, h2, by rw [p1.length]; exact h3, fun p hp => hq _ _ _ _ _ (LaddL.le.trans Ladd.le) Ladd.here (s1.cell (d := .lst (rep k.toNat xs)) hp rfl (rep_ls p1 _)) h⟩
  | _ => exact h.elim⟩
section
variable {S : Store} {K : KE} {x : Dat} {xs : List Dat} {n : Nat}
theorem x_repT (e : lstD S x = some xs) (hn : n ≤ sizeLine) (h : xs.length * n ≤ sizeLine) (k : K (.lst (rep n xs)) S) : gRep kT x (.int (n : Int)) S K :=
  ⟨xs, e, by have : sizeLine = 16777216 := rfl; omega, by have : sizeLine = 16777216 := rfl; omega, h, k⟩
theorem x_repC (e : lstD S x = some xs) (hn : n ≤ sizeLine) (h : xs.length * n ≤ sizeLine) (k : K (.cell S.length) (S ++ [.lst (rep n xs)])) : gRep kC x (.int (n : Int)) S K :=
  ⟨xs, e, by have : sizeLine = 16777216 := rfl; omega, by have : sizeLine = 16777216 := rfl; omega, h, k⟩
end
end DL
namespace DL
open PySem L2
section
variable {dl : Env'} {S : Store} {K : KE} {X : KX} {G : (LamI → List (Str × Addr) → Option UB) → Spec} {Bt : Env' → LamI → List (Str × Addr) → Option UB} {ua : UA} {l : LamI} {cl : List (Str × Addr)}
theorem x_give (h : ua dl S (fun ds S1 => G (Bt dl) ds S1 K fun _ _ => False) X) : uGive G Bt ua dl S K X := h
theorem x_lam (h : K (.fn l cl) S) : uLam l cl dl S K X := h
end
end DL
/-! DY16: text.index(sign). -/
namespace DL
open PySem L2
def gSIndex : GM := fun d ds S K => match d, ds with
  | .str a, [.str b] => ∃ i rest, Builtin.Str.occurrences a b 0 a.length 1 = i :: rest ∧ K (.int ((i : Nat) : Int)) S
  | _, _ => False
theorem dmt_sindex [Tabl] {X : Cx} : DMt X "str.index" (fun x xs H Q => ∃ a b i rest, x = .str a ∧ xs = [.str b] ∧ Builtin.Str.occurrences a b 0 a.length 1 = i :: rest ∧ Q (.int (i : Nat)) H) gSIndex := ⟨mt_sindex, fun {x dx xs ds L H S T K Q} hs p ps h hq => by
  unfold gSIndex at h
  split at h
  · rename_i a b
    obtain ⟨i, rest, ho, h⟩ := h
    obtain ⟨v, rfl, pv⟩ := ps.one
    exact ⟨a, b, i, rest, hs.vstr p, by rw [hs.vstr pv], ho, hq.flat hs (d := .int _) rfl h⟩
  · exact h.elim⟩
theorem occ_idx {a : Str} {c : Nat} (h : c ∈ a.cps.toList) : ∃ rest, Builtin.Str.occurrences a (sgn c) 0 a.length 1 = a.cps.toList.idxOf c :: rest := by
  have hl := List.idxOf_lt_length_iff.mpr h
  have hat : a.cps.toList[a.cps.toList.idxOf c]? = some c := by rw [List.getElem?_eq_getElem hl]; simp
  rcases StrLaws.occ_head a (sgn c) 1 (Nat.le_refl _) with ⟨_, q⟩ | ⟨i, r, e, q, m⟩
  · exact (q _ ((StrLaws.subAt_one a c _).mpr hat)).elim
  · have hi := (StrLaws.subAt_one a c i).mp q
    have h1 : ¬ a.cps.toList.idxOf c < i := fun z => m _ z ((StrLaws.subAt_one a c _).mpr hat)
    have h2 : ¬ i < a.cps.toList.idxOf c := fun z => by
      have := List.not_of_lt_findIdx (p := fun x => x == c) z
      have hlt := (List.getElem?_eq_some_iff.mp hi).1
      have hv := (List.getElem?_eq_some_iff.mp hi).2
      simp [hv] at this
    have : i = a.cps.toList.idxOf c := by omega
    exact ⟨r, by rw [e, this]⟩
theorem x_sindex {S : Store} {K : KE} {a : Str} {c : Nat} (h : c ∈ a.cps.toList) (k : K (.int ((a.cps.toList.idxOf c : Nat) : Int)) S) : gSIndex (.str a) [.str (sgn c)] S K := by
  obtain ⟨rest, e⟩ := occ_idx h
  exact ⟨_, rest, e, k⟩
end DL
/-! DY17: len, repr, == of own classes; f-strings. -/
namespace DL
open PySem PySem.Spec L2 PyProof.Rows
section
variable {X : Cx} {k j : Nat} {f : Addr} {fd : FuncData} {ps : List Str} {sp : Sp}
/-- a def is called somewhere below the running body -/
theorem run_at {A : Around} {pins : List (Addr × Obj)} {sg : L2.St} {H : Hp} {s : Shared} {Q : VK} {us : List Value} {vs : List V} (F : FnOk X.prog X.w X.K X.mg X.base (L2.CX X.prog X.w) k f fd ps sp) (hr : Room k A) (hfr : A.frames = X.A.frames) (hb : Binds X.K fd ps [])
    (I : Inv X pins sg H s) (r : Vals vs us) (h : sp vs H Q fun _ _ _ => False) : wpAny (model X.prog X.w) A (call (.ref f) us) (EP X pins sg Q) X.xe s := by
  have hl : us.length = ps.length := by rw [← r.length]; exact F.len _ _ _ _ h
  have e0 : Env0 X.prog X.w X.K X.mg X.base A X.stack s H := by
    have e := I.env0
    exact ⟨by rw [hfr]; exact e.frames, e.mod, e.bs, e.bsz, e.funs, e.frf, e.hok, e.bare⟩
  refine wpAny_call (codeAny_mono (F.run A X.stack s H ⟨us, []⟩ us vs Q (fun _ _ _ => False) hr e0 (by
    have := hb s us I.kIn (by simpa using hl)
    simpa using this) r h) fun r s' hq => ?_)
  cases r with
  | error e => exact (cx_none hq).elim
  | ok fl =>
    cases fl with
    | ret u => exact I.after hq
    | next => exact False.elim hq
    | brk => exact False.elim hq
    | cont => exact False.elim hq
end
def rOfL [Tabl] (g : GL) : List V → Hp → VK → Prop := fun vs H Q => ∃ ds L S T K, SR H L S T ∧ Ls L vs ds ∧ g ds S K ∧ EOk L T K Q
theorem rOfL_imp [Tabl] {g : GL} : CbI (rOfL g) g := fun {xs ds L H S T K Q} hs p h hq => ⟨ds, L, S, T, K, hs, p, h, hq⟩
/-- len(x), x of an own class -/
def gLenO (MS : List (Addr × Spec)) : GL := fun ds S K => match ds with
  | [d] => ∃ C ns xs F, insD S d = some (C, ns, xs) ∧ (C, F) ∈ MS ∧ F [d] S (fun r S1 => ∃ n : Nat, r = .int (n : Int) ∧ n < 2 ^ 62 ∧ K (.int (n : Int)) S1) fun _ _ => False
  | _ => False
/-- repr(x), x of an own class -/
def gReprO (MS : List (Addr × Spec)) : GL := fun ds S K => match ds with
  | [d] => ∃ C ns xs F, insD S d = some (C, ns, xs) ∧ (C, F) ∈ MS ∧ F [d] S (fun r S1 => ∃ z : Str, r = .str z ∧ K (.str z) S1) fun _ _ => False
  | _ => False
section
variable {X : Cx} {MS : List (Addr × Spec)} {k j : Nat}
theorem dcb_lenO [Tabl] (hM : ∀ q ∈ MS, MethV X.prog X.w X.K X.mg X.base k "__len__" ["self"] [] [] q.1 q.2) (hr : Room j X.A) (hj : k + 1 ≤ j) : DCb X (.builtin "len") (rOfL (gLenO MS)) (gLenO MS) := by
  refine ⟨?_, rOfL_imp⟩
  intro pins s sg H xs us Q I r ⟨ds, L, S, T, K, hs, p, h, hq⟩
  unfold gLenO at h
  split at h
  · rename_i d
    obtain ⟨v, rfl, pv⟩ := p.one
    cases r with
    | cons rv r0 =>
    cases r0
    rename_i u
    obtain ⟨C, ns, xs, F, hi, hm, hF⟩ := h
    obtain ⟨b, dd, vs, rfl, hb, _, _, _⟩ := hs.insOf pv hi
    obtain rfl : u = Value.ref b := rv
    obtain ⟨f, fd, dl, c, M, G, hb1, vd, _⟩ := hM _ hm
    obtain ⟨_, _, _, ho, mA, hns, _⟩ := I.hok b _ hb
    obtain ⟨od, J, _⟩ := ObjM.look (h := s.heap) (x := b) (dx := dd) (C := C) (mA := mA) (by constructor <;> assumption)
    obtain ⟨m, hF2⟩ := I.fr
    have hvd : dl = [] := by cases vd; rfl
    subst hvd
    refine PySem.W.len_K hF2 I.ok.mod.kin J M.at_ M.fn ?_
    refine wpAny_mono (run_at (Q := fun r H1 => ∃ n L1 S1, r = .int ((n : Nat) : Int) ∧ n < 2 ^ 62 ∧ Lle L L1 ∧ SR H1 L1 S1 T ∧ K (.int (n : Int)) S1) (G.mono (Nat.le_refl _)) ((hr.mono hj).in1) rfl hb1 I (us := [.ref b]) (vs := [.ref b]) (.cons rfl .nil) ?_) (fun r s1 hh => ?_) fun _ _ z => z
    · refine ⟨[d], L, S, T, _, _, ⟨pv, True.intro⟩, hs, hF, fun v' d' L' H' S' l' p' s' ⟨n, e, hn, k'⟩ => ?_, fun _ _ _ _ _ _ _ _ z => z.elim⟩
      subst e
      exact ⟨n, L', S', s'.vint p', hn, l', s', k'⟩
    · obtain ⟨r', H1, I1, rv, n, L1, S1, e, hn, l1, s1', k1⟩ := hh
      subst e
      obtain ⟨t, rfl⟩ := (show ∃ t, r = Value.int ((n : Nat) : Int) t from rv)
      exact ⟨⟨by omega, by omega⟩, .int (n : Int), H1, I1.tok _, ⟨_, rfl⟩, hq.le l1 |>.flat s1' (d := .int (n : Int)) rfl k1⟩
  · exact h.elim
theorem dcb_reprO [Tabl] (hM : ∀ q ∈ MS, MethV X.prog X.w X.K X.mg X.base k "__repr__" ["self"] [] [] q.1 q.2) (hr : Room j X.A) (hj : k + 1 ≤ j) : DCb X (.builtin "repr") (rOfL (gReprO MS)) (gReprO MS) := by
  refine ⟨?_, rOfL_imp⟩
  intro pins s sg H xs us Q I r ⟨ds, L, S, T, K, hs, p, h, hq⟩
  unfold gReprO at h
  split at h
  · rename_i d
    obtain ⟨v, rfl, pv⟩ := p.one
    cases r with
    | cons rv r0 =>
    cases r0
    rename_i u
    obtain ⟨C, ns, xs, F, hi, hm, hF⟩ := h
    obtain ⟨b, dd, vs, rfl, hb, _, _, _⟩ := hs.insOf pv hi
    obtain rfl : u = Value.ref b := rv
    obtain ⟨f, fd, dl, c, M, G, hb1, vd, _⟩ := hM _ hm
    obtain ⟨_, _, _, ho, mA, hns, _⟩ := I.hok b _ hb
    obtain ⟨od, J, _⟩ := ObjM.look (h := s.heap) (x := b) (dx := dd) (C := C) (mA := mA) (by constructor <;> assumption)
    obtain ⟨m, hF2⟩ := I.fr
    have hvd : dl = [] := by cases vd; rfl
    subst hvd
    refine PySem.W.repr_K ((hr.mono hj).in1).units0 hF2 I.ok.mod.kin J M.at_ M.fn ?_
    refine wpAny_mono (run_at (Q := fun r H1 => ∃ z L1 S1, r = .str z ∧ Lle L L1 ∧ SR H1 L1 S1 T ∧ K (.str z) S1) (G.mono (Nat.le_refl _)) ((hr.mono hj).in1) rfl hb1 I (us := [.ref b]) (vs := [.ref b]) (.cons rfl .nil) ?_) (fun r s1 hh => ?_) fun _ _ z => z
    · refine ⟨[d], L, S, T, _, _, ⟨pv, True.intro⟩, hs, hF, fun v' d' L' H' S' l' p' s' ⟨z, e, k'⟩ => ?_, fun _ _ _ _ _ _ _ _ z => z.elim⟩
      subst e
      exact ⟨z, L', S', s'.vstr p', l', s', k'⟩
    · obtain ⟨r', H1, I1, rv, z, L1, S1, e, l1, s1', k1⟩ := hh
      subst e
      obtain ⟨t, rfl⟩ := (show ∃ t, r = Value.str z t from rv)
      exact ⟨.str z, H1, I1, ⟨_, rfl⟩, hq.le l1 |>.flat s1' (d := .str z) rfl k1⟩
  · exact h.elim
end
section
variable {dl : Env'} {S : Store} {K : KE} {X : KX} {MS : List (Addr × Spec)} {d : Dat} {C : Addr} {ns : List Str} {xs : List Dat} {F : Spec} {n : Nat} {z : Str}
theorem x_lenO (hi : insD S d = some (C, ns, xs)) (hm : (C, F) ∈ MS) (h : F [d] S (fun r S1 => ∃ n : Nat, r = .int (n : Int) ∧ n < 2 ^ 62 ∧ K (.int (n : Int)) S1) fun _ _ => False) : gLenO MS [d] S K := ⟨C, ns, xs, F, hi, hm, h⟩
theorem x_reprO (hi : insD S d = some (C, ns, xs)) (hm : (C, F) ∈ MS) (h : F [d] S (fun r S1 => ∃ z : Str, r = .str z ∧ K (.str z) S1) fun _ _ => False) : gReprO MS [d] S K := ⟨C, ns, xs, F, hi, hm, h⟩
end
/-! ### f-strings -/
def gFmt : G1 := fun d S K => match d with
  | .str y => y.length ≤ sizeLine ∧ K (.str y) S
  | .int i => i.natAbs.log2 < 1920 ∧ K (.str (toString i)) S
  | _ => False
theorem de_fmt [Tabl] {X : Cx} {W : WX} {e : Expr} {te : TE} {ue : UE} {pos : Pos} (h : DE X W e te ue) : DE X W (.FormattedValue e (-1) none pos) (tFmt te) (uUn gFmt ue) :=
  ⟨pe_fmt h.run, fun {sg dl L H S T K X' Q} he hs hu hq hx => h.imp he hs hu (fun v d L1 H1 S1 l1 p1 s1 k1 => by
    cases d with
    | str y => exact .inl ⟨y, s1.vstr p1, k1.1, hq.le l1 |>.flat s1 (d := .str y) rfl k1.2⟩
    | int i => exact .inr ⟨i, s1.vint p1, k1.1, hq.le l1 |>.flat s1 (d := .str _) rfl k1.2⟩
    | _ => exact k1.elim) hx⟩
/-- the parts of an f-string -/
inductive DJ [Tabl] (X : Cx) (W : WX) : List Expr → List TE → List UE → Prop where
  | nil : DJ X W [] [] []
  | cons {e : Expr} {t : TE} {u : UE} {es : List Expr} {ts : List TE} {us : List UE} (h : DE X W e t u) (r : DJ X W es ts us) : DJ X W (e :: es) (t :: ts) (u :: us)
theorem DJ.pj [Tabl] {X : Cx} {W : WX} {es : List Expr} {ts : List TE} {us : List UE} (h : DJ X W es ts us) : PJ X es ts := by
  induction h with
  | nil => exact .nil
  | cons h _ ih => exact .cons h.run ih
def uJs : List UE → Str → Env' → Store → (Str → Store → Prop) → KX → Prop
  | [], acc, _, S, K, _ => K acc S
  | u :: us, acc, dl, S, K, X => u dl S (fun d S1 => ∃ y : Str, d = .str y ∧ (acc ++ y).length ≤ sizeLine ∧ uJs us (acc ++ y) dl S1 K X) X
def uJoin (us : List UE) : UE := fun dl S K X => uJs us Str.empty dl S (fun z S1 => K (.str z) S1) X
theorem DJ.imp [Tabl] {X : Cx} {W : WX} {es : List Expr} {ts : List TE} {us : List UE} (h : DJ X W es ts us) : ∀ {acc : Str} {sg dl L H S T K Q Xk}, EnvIn sg dl L → SR H L S T → uJs us acc dl S K Xk → (∀ z L' H' S', Lle L L' → SR H' L' S' T → K z S' → Q z H') → XOk W sg L T Xk → tJs ts acc sg H Q := by
  induction h with
  | nil => intro acc sg dl L H S T K Q Xk he hs hu hq hx; exact hq acc L H S (.refl L) hs hu
  | cons h _ ih =>
    intro acc sg dl L H S T K Q Xk he hs hu hq hx
    refine h.imp he hs hu (fun v d L1 H1 S1 l1 p1 s1 ⟨y, e, hy, k1⟩ => ?_) hx
    subst e
    exact ⟨y, s1.vstr p1, hy, ih (he.le l1) s1 k1 (fun z L' H' S' l s q => hq z L' H' S' (l1.trans l) s q) (hx.le l1)⟩
theorem de_joined [Tabl] {X : Cx} {W : WX} {v1 v2 : Expr} {rest : List Expr} {ts : List TE} {us : List UE} {pos : Pos} (h : DJ X W (v1 :: v2 :: rest) ts us) : DE X W (.JoinedStr (v1 :: v2 :: rest) pos) (fun sg H Q => tJs ts Str.empty sg H fun out H1 => Q (.str out) H1) (uJoin us) :=
  ⟨pe_joined h.pj, fun {sg dl L H S T K X' Q} he hs hu hq hx => h.imp he hs hu (fun z L' H' S' l s k => hq.le l |>.flat s (d := .str z) rfl k) hx⟩
section
variable {dl : Env'} {S : Store} {K : KE} {Kz : Str → Store → Prop} {X : KX} {us : List UE} {u : UE} {acc y : Str} {i : Int}
theorem x_joined (h : uJs us Str.empty dl S (fun z S1 => K (.str z) S1) X) : uJoin us dl S K X := h
theorem x_jn (h : Kz acc S) : uJs [] acc dl S Kz X := h
theorem x_jc (h : u dl S (fun d S1 => ∃ y : Str, d = .str y ∧ (acc ++ y).length ≤ sizeLine ∧ uJs us (acc ++ y) dl S1 Kz X) X) : uJs (u :: us) acc dl S Kz X := h
theorem x_fmtS (hl : y.length ≤ sizeLine) (k : K (.str y) S) : gFmt (.str y) S K := ⟨hl, k⟩
theorem x_fmtI (hl : i.natAbs.log2 < 1920) (k : K (.str (toString i)) S) : gFmt (.int i) S K := ⟨hl, k⟩
end
end DL
/-! DY18: enumerate of a list, a tuple, a text; with a start. -/
namespace DL
open PySem PySem.Spec L2 PyProof.Rows
section
variable {prog : Program} {w : World} {A : Around} {E : Value → Shared → Prop} {s : Shared}
set_option maxHeartbeats 1000000 in
theorem meets_enum1 {v : Value} {o : Obj} {H : Heap → Prop} (B : Begins v o H) :
    Meets (Builtin.«enumerate.__new__» ⟨[.type "enumerate", v], []⟩) (fun _ R s => H s.heap ∧
      R (.ok (.ret (.ref (s.heap.push o).objs.size))) { s with heap := (s.heap.push o).push { cls := .type "enumerate", data := .fields #[.none, .bool false, .ref s.heap.objs.size, rawInt 0, .none, .none] } }) :=
  .of_wp fun prog w A R s h => by
    obtain ⟨hp, g, d, tk, os⟩ := s; obtain ⟨h1, h⟩ := h
    have hsub := sub_enumerate
    have q1 : ∀ {A' : Around} {E : Value → Shared → Prop} {Q : Value → Shared → Prop}, Q (.ref hp.objs.size) ⟨hp.push o, g, d, tk, os⟩ → wpAny (model prog w) A' (pyIter v) Q E ⟨hp, g, d, tk, os⟩ :=
      fun q => B.iter prog w _ _ ⟨hp, g, d, tk, os⟩ _ h1 q
    wp_walk using q1
    refine wpAny_stack_any fun st => wpAny_pure ?_
    split
    · rename_i c _ _ _ _ _
      cases (c == Value.type "enumerate")
      · wp_walk using q1
        exact ⟨_, rfl, h⟩
      · wp_walk using q1
        exact ⟨_, rfl, h⟩
    · wp_walk using q1
      exact ⟨_, rfl, h⟩
theorem enum_begins1 {v : Value} {o : Obj} {H : Heap → Prop} {Q : Value → Shared → Prop} (B : Begins v o H) (h1 : H s.heap)
    (h : ∀ h', IsEnum h' (s.heap.objs.size + 1) s.heap.objs.size 0 .none → h'.get? s.heap.objs.size = some o → h'.objs.size = s.heap.objs.size + 2 →
      (∀ b o, s.heap.get? b = some o → h'.get? b = some o) → Q (.ref (s.heap.objs.size + 1)) { s with heap := h' }) :
    wpAny (model prog w) A (call (.type "enumerate") [v]) Q E s := by
  refine callType_new F.called_enumerate (by decide) (F.typeCall_enumerate_1 _) (F.newCall_enumerate_1 _) (fun obj => F.args_object_init_2 obj _) F.entry_enumerate_new
    (meets_enum1 B) ⟨h1, ?_⟩
  have hz : (s.heap.push o).objs.size = s.heap.objs.size + 1 := Heap.size_push ..
  show _ ∧ _
  rw [hz]
  have he : IsEnum ((s.heap.push o).push { cls := .type "enumerate", data := .fields #[.none, .bool false, .ref s.heap.objs.size, rawInt 0, .none, .none] }) (s.heap.objs.size + 1) s.heap.objs.size 0 .none := by
    have := Heap.get?_push_size (s.heap.push o) (o := { cls := .type "enumerate", data := .fields #[.none, .bool false, .ref s.heap.objs.size, rawInt 0, .none, .none] }) rfl
    rw [hz] at this; exact this
  refine ⟨⟨_, he, rfl⟩, h _ he (Heap.get?_push_of_some _ (Heap.get?_push_size _ B.free)) (by rw [Heap.size_push, hz]) fun b o x => Heap.get?_push_of_some _ (Heap.get?_push_of_some _ x)⟩
end
/-- numbered items, drawn from one source -/
def ItE (K : PySem.W.Frag) (k0 : Int) (k : Sk) : It :=
  ⟨fun i H => ∃ (xs : List V) (x : V), k.vals K H xs ∧ xs[i]? = some x,
    fun i H v H' => ∃ T x, v = .ref T ∧ H T = none ∧ H' = upd H T (.tup [.int (k0 + (i : Int)), x]) ∧ ∀ xs, k.vals K H xs → xs[i]? = some x,
    fun i H => ∃ xs : List V, k.vals K H xs ∧ i = xs.length⟩
theorem turn_e {P : Program} {w : World} {K : PySem.W.Frag} {elts : List Expr} {kk : Nat} {tpos : Pos} (k0 : Int) {k : Sk} {e it : Addr} (hei : e ≠ it) (n1 : ∀ a ∈ k.src, a ≠ it) (n2 : ∀ a ∈ k.src, a ≠ e) :
    Turn P w K (.Tuple elts kk tpos) (ItE K k0 k) [e, it] e (fun i h => (∃ old, IsEnum h e it (k0 + (i : Int)) old) ∧ k.at_ it i h) where
  mem := by simp
  obj := fun i h st c hc => by
    obtain ⟨⟨old, he⟩, h1⟩ := st
    have e' : c = e ∨ c = it := by simpa using hc
    rcases e' with q | q
    · rw [q]; exact ⟨_, he, fun v q => nomatch q⟩
    · rw [q]; exact Sk.get? it i h h1
  keep := fun i h h' st k => by
    obtain ⟨⟨old, he⟩, h1⟩ := st
    exact ⟨⟨old, k e (by simp) _ he⟩, Sk.keep h1 fun o q => k it (by simp) o q⟩
  item := by
    intro X hP hw hK hc i pins s sg H E I hf st hg
    subst hP hw hK
    obtain ⟨⟨old, he⟩, h1⟩ := st
    obtain ⟨xs, x, hqx, hx⟩ := hg
    have hin : (X.A.in1).handled = none := I.ok.hd hc
    obtain ⟨P1, S1, D1, a1, b1, c1⟩ := k.draws (prog := X.prog) (w := X.w) (A := X.A.in1) hin I hqx it n1
    have lx : i < xs.length := (List.getElem?_eq_some_iff.mp hx).1
    have hef : e ∉ it :: k.src := fun m => by
      rcases List.mem_cons.mp m with q | q
      · exact hei q
      · exact n2 e q rfl
    refine (GoesN.enumFrom (elts := elts) (x1 := kk) (pos := tpos) k0 D1 e hei hef List.mem_cons_self).goes i s _ E lx ⟨⟨old, he⟩, a1 i h1⟩ fun v h' tk hY hSt hk _ => ?_
    obtain ⟨T, t, u, rfl, hT, p1, ht⟩ := hY
    obtain ⟨x', e1, r1⟩ := c1 i u p1
    rw [hx] at e1
    injection e1 with e1
    subst e1
    obtain ⟨he', s1'⟩ := hSt
    have new : ObjOk X.prog X.w (upd H T (.tup [.int (k0 + (i : Int)), x])) h' T (.tup [.int (k0 + (i : Int)), x]) := ⟨by show 2 ≤ sizeLine; decide, [.int (k0 + (i : Int)) t, u], .cons ⟨_, rfl⟩ (.cons r1 .nil), ht⟩
    have I1 : Inv X pins sg (upd H T (.tup [.int (k0 + (i : Int)), x])) { s with heap := h', toks := tk } :=
      I.turnedNew (t' := tk) (ch := [e, it]) (fun c o hb q => hk c o hb q) hf hT new
    refine ⟨.ref T, _, I1, rfl, ⟨T, x, rfl, I.hok.fresh hT, rfl, fun l hl => by rw [Sk.inj I hl hqx]; exact hx⟩, ⟨he', b1 _ _ s1'⟩, fun c hcm => ?_⟩
    have hlt : c < s.heap.objs.size := by
      have e' : c = e ∨ c = it := by simpa using hcm
      rcases e' with q | q
      · rw [q]; exact Heap.lt_size he
      · rw [q]; obtain ⟨_, e, _⟩ := Sk.get? it i _ h1; exact Heap.lt_size e
    rw [upd_ne (Nat.ne_of_lt (Nat.lt_of_lt_of_le hlt hT))]
    exact (hf c hcm).1
  done := by
    intro X hP hw hK hc i pins s sg H E I hf st hg
    subst hP hw hK
    obtain ⟨⟨old, he⟩, h1⟩ := st
    obtain ⟨xs, hqx, hl⟩ := hg
    have hin : (X.A.in1).handled = none := I.ok.hd hc
    obtain ⟨P1, S1, D1, a1, b1, c1⟩ := k.draws (prog := X.prog) (w := X.w) (A := X.A.in1) hin I hqx it n1
    have hef : e ∉ it :: k.src := fun m => by
      rcases List.mem_cons.mp m with q | q
      · exact hei q
      · exact n2 e q rfl
    subst hl
    refine (GoesN.enumFrom (elts := elts) (x1 := kk) (pos := tpos) k0 D1 e hei hef List.mem_cons_self).stops s (fun s' => Inv X pins sg H s') E ⟨⟨old, he⟩, a1 _ h1⟩ fun h' tk hk _ => ?_
    exact I.turnedL (t' := tk) (ch := [e, it]) (fun c o hb q => hk c o hb q) hf
  self := fun A i s Q E st h => by
    obtain ⟨⟨old, he⟩, _⟩ := st
    exact wpAny_pyIter_enum he h
def iE (K : PySem.W.Frag) (k0 : Int) (ta : TA) : TI := fun sg H R => ta sg H fun vs H1 => ∃ v1, vs = [v1] ∧ ∀ u1, RelV v1 u1 → ∃ k1 xs, Sk.val k1 = u1 ∧ k1.vals K H1 xs ∧ R (ItE K k0 k1) H1
theorem pi_e {X : Cx} {e : Expr} {ta : TA} {p pos tpos : Pos} {elts : List Expr} {kk : Nat} (hg : Gl X "enumerate") (hm : X.mg "enumerate" = none) (ha : PA X [e] ta) (hs : starEach [e] X.env = [(false, eval e X.env)] := by rfl) :
    PI X (.Tuple elts kk tpos) (.Call (.Name "enumerate" p) [e] [] pos) (iE X.K 0 ta) := by
  refine ⟨fun pins s sg H R I h => ?_⟩
  refine Call_ (ld_blt I hg hm boot_enumerate (PyProof.Rows.callWith_type1 (thn (ha.run pos pins s sg H _ I h) fun us s1 ⟨vs, H1, I1, r1, q1⟩ => ?_) hs rfl))
  obtain ⟨v1, ex, q1⟩ := q1
  subst ex
  cases r1 with
  | cons ru1 rr =>
    cases rr
    obtain ⟨k1, xs, ek, hx, q⟩ := q1 _ ru1
    subst ek
    obtain ⟨B1, b1, hb1, l1⟩ := k1.begins I1 hx
    refine enum_begins1 b1 hb1 fun h' he h1 hsz hk => wpAny_pyIter_enum he ?_
    have I2 : Inv X pins sg H1 { s1 with heap := h' } := I1.kept (t' := s1.toks) hk
    refine ⟨s1.heap.objs.size + 1, [s1.heap.objs.size + 1, s1.heap.objs.size], _, _, H1, rfl, I2,
      turn_e 0 (k := k1) (Nat.succ_ne_self _) (fun a ha => Nat.ne_of_lt (l1 a ha)) (fun a ha => Nat.ne_of_lt (Nat.lt_succ_of_lt (l1 a ha))), ⟨⟨.none, he⟩, Sk.fresh k1 h1⟩, fun c hcm => ?_, q⟩
    have e' : c = s1.heap.objs.size + 1 ∨ c = s1.heap.objs.size := by simpa using hcm
    have hle : s1.heap.objs.size ≤ c := by
      rcases e' with z | z
      · rw [z]; exact Nat.le_add_right _ _
      · rw [z]; exact Nat.le_refl _
    exact I1.fpOk hle (I1.hok.fresh hle)
def uEnK (k0 : Int) (ua : UA) : UI := fun dl S R X => ua dl S (fun ds S1 => match ds with
  | [a] => ∃ xs, drawD S1 a = some xs ∧ R (enumD k0 xs) (fun S => drawD S a = some xs) S1
  | _ => False) X
theorem enumD_atK {k0 : Int} : ∀ {xs : List Dat} {i : Nat}, (enumD k0 xs)[i]? = (xs[i]?).map fun x => .tup [.int (k0 + (i : Int)), x]
  | [], i => by simp [enumD]
  | x :: xs, 0 => by simp [enumD]
  | x :: xs, i + 1 => by
    simp only [enumD, List.getElem?_cons_succ]
    rw [enumD_atK (k0 := k0 + 1) (xs := xs) (i := i), show k0 + 1 + (i : Int) = k0 + ((i + 1 : Nat) : Int) by omega]
theorem enumD_lenK {k0 : Int} : ∀ {xs : List Dat}, (enumD k0 xs).length = xs.length
  | [] => rfl
  | x :: xs => by simp only [enumD, List.length_cons, enumD_lenK]
theorem itE_ok [Tabl] {KF : PySem.W.Frag} {k0 : Int} {a : Dat} {xs : List Dat} {k1 : Sk} {L1 : LL} (f1 : ∀ H2 L2 S2 T2, Lle L1 L2 → SR H2 L2 S2 T2 → drawD S2 a = some xs → ∃ vs L3, k1.vals KF H2 vs ∧ Lle L2 L3 ∧ Ls L3 vs xs ∧ SR H2 L3 S2 T2) :
    ItI (ItE KF k0 k1) (enumD k0 xs) L1 fun S => drawD S a = some xs :=
  ⟨fun i H2 L2 S2 T2 l2 s2 hP hi => by
    obtain ⟨vs, L3, h3, l3, p3, s3⟩ := f1 H2 L2 S2 T2 l2 s2 hP
    rw [enumD_lenK] at hi
    exact ⟨vs, vs[i]'(by rw [p3.length]; exact hi), h3, List.getElem?_eq_getElem _⟩,
  fun i H2 L2 S2 T2 x H3 d l2 s2 hP hd hy => by
    obtain ⟨vs, L3, h3, l3, p3, s3⟩ := f1 H2 L2 S2 T2 l2 s2 hP
    obtain ⟨A, x1, rfl, hA, rfl, hx1⟩ := hy
    obtain ⟨c, ec, pc⟩ := p3.getV (hx1 vs h3)
    rw [enumD_atK, ec] at hd
    injection hd with hd
    subst hd
    have s4 := s3.flat (d := .int (k0 + (i : Int))) (v := .int (k0 + (i : Int))) rfl
    exact ⟨Ladd (Ladd L3 _ _) _ _, (l3.trans Ladd.le).trans Ladd.le, Ladd.here, s4.tup hA ⟨Ladd.here, Ladd.le _ _ pc, True.intro⟩⟩,
  fun i H2 L2 S2 T2 l2 s2 hP hi => by
    obtain ⟨vs, L3, h3, l3, p3, s3⟩ := f1 H2 L2 S2 T2 l2 s2 hP
    exact ⟨vs, h3, by rw [hi, p3.length, enumD_lenK]⟩⟩
section
variable {X : Cx} {W : WX} {e : Expr} {ta : TA} {ua : UA} {p pos tpos : Pos} {elts : List Expr} {kk : Nat}
theorem di_enumS [Tabl] (hm : X.mg "enumerate" = none) (ha : DA X W [e] ta ua) (hg : Gl X "enumerate" := by rfl) (hs : starEach [e] X.env = [(false, eval e X.env)] := by rfl) :
    DI X W (.Tuple elts kk tpos) (.Call (.Name "enumerate" p) [e] [] pos) (iE X.K 0 ta) (uEnK 0 ua) := ⟨pi_e hg hm ha.run hs, fun {sg dl L H S T R X' Q} he hs h hq hx =>
  ha.imp he hs h (fun vs ds L1 H1 S1 l1 p1 s1 h1 => by
    match ds, p1, h1 with
    | [a], p1, h1 =>
      obtain ⟨xs, ea, h1⟩ := h1
      obtain ⟨v, rfl, pv⟩ := p1.one
      refine ⟨v, rfl, fun u1 r1 => ?_⟩
      obtain ⟨k1, e1, f1⟩ := sk_of (KF := X.K) s1 pv ea r1
      obtain ⟨xv, _, hxv, _⟩ := f1 H1 L1 S1 T (.refl _) s1 ea
      exact ⟨k1, xv, e1, hxv, hq _ (enumD 0 xs) (fun S => drawD S a = some xs) L1 H1 S1 l1 s1 (itE_ok f1) h1⟩
    | [], _, h1 => exact h1.elim
    | _ :: _ :: _, _, h1 => exact h1.elim) hx⟩
theorem di_enumSK [Tabl] (KK : PySem.W.Frag) (hK : X.K = KK) (hm : X.mg "enumerate" = none) (ha : DA X W [e] ta ua) (hg : Gl X "enumerate" := by rfl) (hs : starEach [e] X.env = [(false, eval e X.env)] := by rfl) :
    DI X W (.Tuple elts kk tpos) (.Call (.Name "enumerate" p) [e] [] pos) (iE KK 0 ta) (uEnK 0 ua) := by subst hK; exact di_enumS hm ha hg hs
theorem x_enK {k0 : Int} {dl : Env'} {S : Store} {R : List Dat → (Store → Prop) → Store → Prop} {Xk : KX} (h : ua dl S (fun ds S1 => match ds with
  | [a] => ∃ xs, drawD S1 a = some xs ∧ R (enumD k0 xs) (fun S => drawD S a = some xs) S1
  | _ => False) Xk) : uEnK k0 ua dl S R Xk := h
end
end DL
/-! DY19: dicts with ints and texts as keys. -/
namespace DL
open PySem PySem.Spec L2 PyProof.Rows
def keyD : Key → Dat
  | .inl i => .int i
  | .inr z => .str z
def kOf : Dat → Option Key
  | .int i => some (.inl i)
  | .str z => some (.inr z)
  | _ => none
def valD (ps : List (Key × Dat)) (k : Key) : Option Dat := (ps.find? fun p => decide (p.1 = k)).map (·.2)
def putD (ps : List (Key × Dat)) (k : Key) (d : Dat) : List (Key × Dat) :=
  if (ps.any fun p => decide (p.1 = k)) = true then ps.map (fun p => if p.1 = k then (p.1, d) else p) else ps ++ [(k, d)]
def mergeD (ps more : List (Key × Dat)) : List (Key × Dat) := more.foldl (fun acc p => putD acc p.1 p.2) ps
def dctD (ps : List (Key × Dat)) : Dat := .dct (ps.map (·.1)) (ps.map (·.2))
def pairD (p : Key × Dat) : Dat := .tup [keyD p.1, p.2]
inductive PD (L : LL) : List (Key × V) → List (Key × Dat) → Prop where
  | nil : PD L [] []
  | cons (k : Key) {v : V} {d : Dat} {r : List (Key × V)} {q : List (Key × Dat)} (h : L v d) (t : PD L r q) : PD L ((k, v) :: r) ((k, d) :: q)
section
variable {L L' : LL} {kvs : List (Key × V)} {ps : List (Key × Dat)} {k : Key} {v : V} {d : Dat}
theorem PD.le (h : PD L kvs ps) (l : Lle L L') : PD L' kvs ps := by
  induction h with
  | nil => exact .nil
  | cons k h _ ih => exact .cons k (l _ _ h) ih
theorem PD.of : ∀ {ps : List (Key × Dat)} {vs : List V}, Ls L vs (ps.map (·.2)) → PD L ((ps.map (·.1)).zip vs) ps
  | [], [], _ => .nil
  | (k, d) :: ps, v :: vs, h => .cons k h.1 (PD.of h.2)
  | [], _ :: _, h => h.elim
  | _ :: _, [], h => h.elim
theorem PD.out (h : PD L kvs ps) : kvs = (ps.map (·.1)).zip (kvs.map (·.2)) ∧ Ls L (kvs.map (·.2)) (ps.map (·.2)) := by
  induction h with
  | nil => exact ⟨rfl, True.intro⟩
  | cons k h _ ih =>
    obtain ⟨e, l⟩ := ih
    refine ⟨?_, h, l⟩
    rw [List.map_cons, List.map_cons, List.zip_cons_cons, ← e]
theorem PD.len (h : PD L kvs ps) : kvs.length = ps.length := by
  induction h with
  | nil => rfl
  | cons k h _ ih => rw [List.length_cons, List.length_cons, ih]
theorem PD.keys (h : PD L kvs ps) : kvs.map (·.1) = ps.map (·.1) := by
  induction h with
  | nil => rfl
  | cons k h _ ih => rw [List.map_cons, List.map_cons, ih]
theorem PD.val (h : PD L kvs ps) (k : Key) : (valV kvs k = none ∧ valD ps k = none) ∨ ∃ v d, valV kvs k = some v ∧ valD ps k = some d ∧ L v d := by
  induction h with
  | nil => exact .inl ⟨rfl, rfl⟩
  | cons j h _ ih =>
    by_cases e : j = k
    · exact .inr ⟨_, _, by simp [valV, List.find?_cons, e], by simp [valD, List.find?_cons, e], h⟩
    · rcases ih with ⟨a, b⟩ | ⟨v, d, a, b, c⟩
      · exact .inl ⟨by rw [valV_neg (by exact e)]; exact a, by simp only [valD, List.find?_cons, decide_eq_false e]; exact b⟩
      · exact .inr ⟨v, d, by rw [valV_neg (by exact e)]; exact a, by simp only [valD, List.find?_cons, decide_eq_false e]; exact b, c⟩
theorem PD.any (h : PD L kvs ps) (k : Key) : (kvs.any fun p => decide (p.1 = k)) = ps.any fun p => decide (p.1 = k) := by
  induction h with
  | nil => rfl
  | cons j h _ ih => rw [List.any_cons, List.any_cons, ih]
theorem PD.snoc (h : PD L kvs ps) (hv : L v d) : PD L (kvs ++ [(k, v)]) (ps ++ [(k, d)]) := by
  induction h with
  | nil => exact .cons k hv .nil
  | cons j h _ ih => exact .cons j h ih
theorem PD.repl (h : PD L kvs ps) (hv : L v d) : PD L (kvs.map fun p => if p.1 = k then (p.1, v) else p) (ps.map fun p => if p.1 = k then (p.1, d) else p) := by
  induction h with
  | nil => exact .nil
  | cons j h _ ih =>
    rw [List.map_cons, List.map_cons]
    by_cases e : j = k
    · rw [if_pos e, if_pos e]; exact .cons j hv ih
    · rw [if_neg e, if_neg e]; exact .cons j h ih
theorem PD.put (h : PD L kvs ps) (hv : L v d) : PD L (putK kvs k v) (putD ps k d) := by
  unfold putK putD
  rw [h.any k]
  split
  · exact h.repl hv
  · exact h.snoc hv
theorem PD.merge {more : List (Key × V)} {mo : List (Key × Dat)} (hm : PD L more mo) : ∀ {kvs : List (Key × V)} {ps : List (Key × Dat)}, PD L kvs ps → PD L (mergeK kvs more) (mergeD ps mo) := by
  induction hm with
  | nil => intro kvs ps h; exact h
  | cons k hv t ih => intro kvs ps h; exact ih (h.put hv)
end
theorem kOf_v [Tabl] {H : Hp} {L : LL} {S : Store} {T : List (Addr × HO)} (s : SR H L S T) {v : V} {d : Dat} {k : Key} (h : L v d) (e : kOf d = some k) : v = kV k := by
  cases d with
  | int i => cases e; exact s.vint h
  | str z => cases e; exact s.vstr h
  | _ => cases e
theorem kOf_key (k : Key) : kOf (keyD k) = some k := by cases k <;> rfl
/-- a dict's items -/
theorem SR.dctV [Tabl] {H : Hp} {L : LL} {S : Store} {T : List (Addr × HO)} (s : SR H L S T) {v : V} {d : Dat} {ps : List (Key × Dat)} (h : L v d) (hv : view S d = some (dctD ps)) : ∃ a kvs L', v = .ref a ∧ Rd H a (.dK kvs) ∧ Lle L L' ∧ PD L' kvs ps ∧ SR H L' S T ∧ ((∃ n, d = .cell n) → H a = some (.dK kvs)) := by
  obtain ⟨rho, x⟩ := s
  have key : ∀ (vs : List V), RDs H (rho ++ T.map (·.1)) rho (ps.map (·.2)) vs → SR H (LaddL L vs (ps.map (·.2))) S T ∧ Ls (LaddL L vs (ps.map (·.2))) vs (ps.map (·.2)) := fun vs r => by
    have q := RDs.ls (LR := fun v d => RD H (rho ++ T.map (·.1)) rho d v) (fun _ _ h => h) r
    refine ⟨⟨rho, x.more fun v d z => ?_⟩, Ls.of q.length fun i w c e1 e2 => .inr ⟨i, e1, e2⟩⟩
    rcases z with z | ⟨i, e1, e2⟩
    · exact .inl z
    · obtain ⟨w, e3, r⟩ := q.get e2
      rw [e1] at e3
      injection e3 with e3
      subst e3
      exact .inr r
  cases d with
  | cell n =>
    obtain ⟨a, ha, e⟩ := x.at_ h
    obtain ⟨vs, e1, _, r⟩ := x.node n a _ ha hv
    obtain ⟨s1, p1⟩ := key vs r
    exact ⟨a, _, _, e, .inl e1, LaddL.le, PD.of p1, s1, fun _ => e1⟩
  | dct ks xs =>
    simp only [view, Option.some.injEq, dctD, Dat.dct.injEq] at hv
    obtain ⟨rfl, rfl⟩ := hv
    have q := x.rd v _ h
    simp only [RD] at q
    obtain ⟨a, vs, e, _, r1, _, r⟩ := q
    obtain ⟨s1, p1⟩ := key vs r
    exact ⟨a, _, _, e, r1, LaddL.le, PD.of p1, s1, fun ⟨n, z⟩ => by cases z⟩
  | _ => simp [view, dctD] at hv
theorem ho_dct {L : LL} {kvs : List (Key × V)} {ps : List (Key × Dat)} (h : PD L kvs ps) : HoOf (kvs.map (·.2)) (dctD ps) (.dK kvs) := by
  obtain ⟨e, _⟩ := h.out
  exact ⟨by rw [← e], by rw [List.length_map, List.length_map, h.len]⟩
/-! d[k] -/
def rDG : R2 := fun x y H Q => ∃ a v, x = .ref a ∧ DGet H a y (some v) ∧ Q v H
def gDG : G2 := fun x y S K => ∃ ps k d, view S x = some (dctD ps) ∧ kOf y = some k ∧ valD ps k = some d ∧ K d S
theorem dg_imp [Tabl] : OpI rDG gDG := fun {x y dx dy L H S T K Q} hs px py ⟨ps, k, d, hv, hk, hd, h⟩ hq => by
  obtain ⟨a, kvs, L', rfl, r, l, pd, s1, _⟩ := hs.dctV px hv
  obtain rfl := kOf_v hs py hk
  rcases pd.val k with ⟨_, e⟩ | ⟨v, d', e1, e2, e3⟩
  · rw [hd] at e; cases e
  · rw [hd] at e2
    cases e2
    exact ⟨a, v, rfl, .inl ⟨kvs, k, r, rfl, e1.symm⟩, hq v d L' H S l e3 s1 h⟩
section
variable {X : Cx} {W : WX} {o i e : Expr} {td ty : TE} {ud uy : UE} {pos apos cpos : Pos}
theorem de_dget [Tabl] (hu : X.A.units + 64 < cLine) (ho : DE X W o td ud) (hi : DE X W i ty uy) (hs : NoSl i := by intro _ _; rfl) : DE X W (.Subscript o i pos) (tOp rDG td ty) (uOp gDG ud uy) :=
  ⟨pe_dget (by omega) ho.run hi.run hs, imp_op dg_imp ho.imp hi.imp⟩
/-! in -/
def rDI (f : Bool → Bool) : R2 := fun y x H Q => ∃ a o, x = .ref a ∧ DGet H a y o ∧ Q (.bl (f o.isSome)) H
def gDI (f : Bool → Bool) : G2 := fun y x S K => ∃ ps k, view S x = some (dctD ps) ∧ kOf y = some k ∧ K (.bl (f (valD ps k).isSome)) S
theorem din_imp [Tabl] {f : Bool → Bool} : OpI (rDI f) (gDI f) := fun {y x dy dx L H S T K Q} hs py px ⟨ps, k, hv, hk, h⟩ hq => by
  obtain ⟨a, kvs, L', rfl, r, l, pd, s1, _⟩ := hs.dctV px hv
  obtain rfl := kOf_v hs py hk
  refine ⟨a, valV kvs k, rfl, .inl ⟨kvs, k, r, rfl, rfl⟩, ?_⟩
  have e : (valV kvs k).isSome = (valD ps k).isSome := by
    rcases pd.val k with ⟨e1, e2⟩ | ⟨v, d', e1, e2, e3⟩ <;> rw [e1, e2] <;> rfl
  rw [e]
  exact hq.le l |>.flat s1 (d := .bl _) rfl h
theorem dop_din [Tabl] (hu : X.A.units + 64 < cLine) : DOp X (compareOp .In) (rDI id) (gDI id) := ⟨fun pins s σ H x y v u Q I rx ry ⟨a, o, ey, g, q⟩ => by
  subst ey
  obtain rfl : u = Value.ref a := ry
  exact d_in (by omega) I g rx fun s' I' => ⟨.bl _, H, I', rfl, q⟩, din_imp⟩
theorem dop_dnotin [Tabl] (hu : X.A.units + 64 < cLine) : DOp X (compareOp .NotIn) (rDI (!·)) (gDI (!·)) := ⟨fun pins s σ H x y v u Q I rx ry ⟨a, o, ey, g, q⟩ => by
  subst ey
  obtain rfl : u = Value.ref a := ry
  exact d_notIn (by omega) I g rx fun s' I' => ⟨.bl _, H, I', rfl, q⟩, din_imp⟩
/-! d[k] = v -/
def rDP : TSet := fun o i v H Q => ∃ a H4, o = .ref a ∧ DPut H a i v H4 ∧ Q H4
def gDP : GS := fun o i v S K => match o with
  | .cell n => ∃ ps k, S[n]? = some (dctD ps) ∧ kOf i = some k ∧ ps.length < sizeLine ∧ K (S.set n (dctD (putD ps k v)))
  | _ => False
theorem dp_imp [Tabl] : SetI rDP gDP := fun {o i v do' di dv L H S T K} {Q} hs po pi pv h hq => by
  unfold gDP at h
  split at h
  · rename_i n
    obtain ⟨ps, k, e, hk, hl, h⟩ := h
    obtain ⟨a, kvs, L', rfl, _, l, pd, s1, ha⟩ := hs.dctV (d := .cell n) po e
    obtain rfl := kOf_v hs pi hk
    have pd2 := pd.put (k := k) (l _ _ pv)
    have s2 := s1.set (a := a) (n := n) (o := .dK (putK kvs k v)) (d := dctD (putD ps k dv)) (l _ _ po) (ho_dct pd2) pd2.out.2
    exact ⟨a, _, rfl, .inl ⟨kvs, k, ha ⟨n, rfl⟩, rfl, by rw [pd.len]; exact hl, rfl⟩, hq _ _ _ l s2 h⟩
  · exact h.elim
theorem set_dict (hu : X.A.units + 64 < cLine) : PSet X rDP := by
  intro pins s σ H o i v ov iv u Q I ro ri rv ⟨a, H4, eo, g, q⟩
  subst eo
  obtain rfl : ov = Value.ref a := ro
  exact d_setItem (by omega) I g ri rv fun s' I' => ⟨H4, I', q⟩
/-! d.get(k) -/
def uDGet (ud uy : UE) : UE := fun dl S K X => ud dl S (fun d S1 => (∃ ps, view S1 d = some (dctD ps)) ∧ uy dl S1 (fun y S2 => ∃ ps k, view S2 d = some (dctD ps) ∧ kOf y = some k ∧ K ((valD ps k).getD .non) S2) X) X
theorem de_dget1 [Tabl] (hu : X.A.units + 64 < cLine) (ho : DE X W o td ud) (he : DE X W e ty uy) (hb : attributeBase o "get" X.env (eval o X.env) = eval o X.env := by rfl)
    (hf : ((backTo cpos (starEach [e] X.env)).all (fun x => !x.1) && (backToKw cpos (keywordEach [] X.env)).all (fun x => x.1.isSome) && decide (([e] : List Expr).length + ([] : List Keyword).length + (if ([] : List Keyword).isEmpty then 0 else 1) < 30)) = true := by rfl)
    (hl : (apos.endLine == cpos.line) = true := by rfl) (ht : backTo cpos (starEach [e] X.env) = [(false, eval e X.env)] := by rfl) :
    DE X W (.Call (.Attribute o "get" apos) [e] [] cpos) (tDGet1 td ty) (uDGet ud uy) :=
  ⟨pe_dget1 (by omega) ho.run he.run ⟨hb, hf, hl, ht⟩, fun {sg dl L H S T K X' Q} hE hs h hq hx => by
    refine ho.imp hE hs h (fun v d L1 H1 S1 l1 p1 s1 ⟨⟨ps0, hv0⟩, h1⟩ => ?_) hx
    obtain ⟨a, kvs0, L2, rfl, r0, l2, _, s2, _⟩ := s1.dctV p1 hv0
    refine ⟨a, rfl, .inl ⟨_, r0⟩, he.imp (hE.le (l1.trans l2)) s2 h1 (fun y dy L3 H3 S3 l3 p3 s3 ⟨ps, k, hv, hk, h3⟩ => ?_) (hx.le (l1.trans l2))⟩
    obtain ⟨a', kvs, L4, ea, r, l4, pd, s4, _⟩ := s3.dctV (l3 _ _ (l2 _ _ p1)) hv
    cases ea
    obtain rfl := kOf_v s3 p3 hk
    refine ⟨valV kvs k, .inl ⟨kvs, k, r, rfl, rfl⟩, ?_⟩
    have lall := ((l1.trans l2).trans l3).trans l4
    rcases pd.val k with ⟨e1, e2⟩ | ⟨v, d', e1, e2, e3⟩
    · rw [e1]; rw [e2] at h3
      exact hq.le lall |>.flat s4 (d := .non) rfl h3
    · rw [e1]; rw [e2] at h3
      exact hq _ _ L4 H3 S3 lall e3 s4 h3⟩
/-! list(d), sorted(d) -/
theorem keys_rel [Tabl] {H : Hp} {L : LL} {S : Store} {T : List (Addr × HO)} (s : SR H L S T) : ∀ ks : List Key, ∃ L', Lle L L' ∧ Ls L' (ks.map kV) (ks.map keyD) ∧ SR H L' S T := fun ks => s.flats (by
  induction ks with
  | nil => exact True.intro
  | cons k r ih => exact ⟨by cases k <;> rfl, ih⟩)
def gKeys (c : Bool) : GL := fun ds S K => match ds with
  | [d] => ∃ ps, view S d = some (dctD ps) ∧ (match c with
    | true => K (.cell S.length) (S ++ [.lst (ps.map fun p => keyD p.1)])
    | false => K (.lst (ps.map fun p => keyD p.1)) S)
  | _ => False
theorem dcb_keys [Tabl] {c : Bool} (hc : X.calm = true) : DCb X (.type "list") (fun xs H Q => ∃ (a : Addr) (kvs : List (Key × V)), xs = [.ref a] ∧ Rd H a (.dK kvs) ∧ ∀ p, H p = none → Q (.ref p) (upd H p (.lst (kvs.map fun kv => kV kv.1)))) (gKeys c) := ⟨call_listD hc, fun {xs ds L H S T K Q} hs p h hq => by
  unfold gKeys at h
  split at h
  · obtain ⟨v, rfl, pv⟩ := p.one
    obtain ⟨ps, hv, h⟩ := h
    obtain ⟨a, kvs, L', rfl, r, l, pd, s1, _⟩ := hs.dctV pv hv
    obtain ⟨L2, l2, p2, s2⟩ := keys_rel s1 (ps.map (·.1))
    rw [List.map_map, List.map_map] at p2
    have e : (kvs.map fun kv => kV kv.1) = ps.map (kV ∘ (·.1)) := by
      have := congrArg (List.map kV) pd.keys
      rw [List.map_map, List.map_map] at this
      exact this
    refine ⟨a, kvs, rfl, r, fun q hq2 => ?_⟩
    rw [e]
    cases c with
    | true => exact hq _ _ _ _ _ ((l.trans l2).trans Ladd.le) Ladd.here (s2.cell (d := .lst (ps.map fun (p : Key × Dat) => keyD p.1)) hq2 rfl p2) h
    | false => exact hq _ _ _ _ S ((l.trans l2).trans Ladd.le) Ladd.here (s2.lst hq2 p2) h
  · exact h.elim⟩
def gSortD (c : Bool) : GL := fun ds S K => match ds with
  | [d] => ∃ ps ks, view S d = some (dctD ps) ∧ ps.map (·.1) = ks.map Sum.inl ∧ ks.length < 64 ∧ ∀ ys : List Int, ys.Perm ks → ys.Pairwise (· ≤ ·) → (match c with
    | true => K (.cell S.length) (S ++ [.lst (ys.map Dat.int)])
    | false => K (.lst (ys.map Dat.int)) S)
  | _ => False
theorem ints_rel [Tabl] {H : Hp} {L : LL} {S : Store} {T : List (Addr × HO)} (s : SR H L S T) : ∀ ks : List Int, ∃ L', Lle L L' ∧ Ls L' (ks.map V.int) (ks.map Dat.int) ∧ SR H L' S T := fun ks => s.flats (by
  induction ks with
  | nil => exact True.intro
  | cons k r ih => exact ⟨rfl, ih⟩)
theorem dcb_sortD [Tabl] {c : Bool} (hc : X.calm = true) : DCb X (.builtin "sorted") (fun xs H Q => ∃ (a : Addr) (kvs : List (Key × V)) (ks : List Int), xs = [.ref a] ∧ Rd H a (.dK kvs) ∧ kvs.map (·.1) = ks.map Sum.inl ∧ ks.length < 64 ∧
    ∀ (ys : List Int) (p : Addr), ys.Perm ks → ys.Pairwise (· ≤ ·) → H p = none → Q (.ref p) (upd H p (.lst (ys.map V.int)))) (gSortD c) := ⟨call_sortedDI hc, fun {xs ds L H S T K Q} hs p h hq => by
  unfold gSortD at h
  split at h
  · obtain ⟨v, rfl, pv⟩ := p.one
    obtain ⟨ps, ks, hv, hk, h64, h⟩ := h
    obtain ⟨a, kvs, L', rfl, r, l, pd, s1, _⟩ := hs.dctV pv hv
    refine ⟨a, kvs, ks, rfl, r, pd.keys.trans hk, h64, fun ys q hp hsrt hn => ?_⟩
    obtain ⟨L2, l2, p2, s2⟩ := ints_rel s1 ys
    have h := h ys hp hsrt
    cases c with
    | true => exact hq _ _ _ _ _ ((l.trans l2).trans Ladd.le) Ladd.here (s2.cell (d := .lst (ys.map Dat.int)) hn rfl p2) h
    | false => exact hq _ _ _ _ S ((l.trans l2).trans Ladd.le) Ladd.here (s2.lst hn p2) h
  · exact h.elim⟩
/-- sorted(xs), ints -/
def gSortI : GL := fun ds S K => match ds with
  | [d] => ∃ ks : List Int, lstD S d = some (ks.map Dat.int) ∧ ∀ ys : List Int, ys.Perm ks → ys.Pairwise (· ≤ ·) → K (.lst (ys.map Dat.int)) S
  | _ => False
theorem dcb_sortI [Tabl] : DCb X (.builtin "sorted") (rSortedI X.K) gSortI := ⟨cr_sortedI, fun {xs ds L H S T K Q} hs p h hq => by
  unfold gSortI at h
  split at h
  · obtain ⟨v, rfl, pv⟩ := p.one
    obtain ⟨ks, e, h⟩ := h
    obtain ⟨a, vs, rfl, h1, s1, p1⟩ := hs.list pv (lstD_view e)
    rw [p1.ints s1] at h1
    refine ⟨a, ks, rfl, .of h1, fun ys q hp hsrt hnew => ?_⟩
    obtain ⟨L2, l2, p2, s2⟩ := ints_rel hs ys
    exact hq _ _ _ _ S (l2.trans Ladd.le) Ladd.here (s2.lst hnew p2) (h ys hp hsrt)
  · exact h.elim⟩
/-! dict(pairs) -/
def gDictP : GL := fun ds S K => match ds with
  | [d] => ∃ ps, lstD S d = some (ps.map pairD) ∧ K (.cell S.length) (S ++ [dctD (mergeD [] ps)])
  | _ => False
theorem pairs_rel [Tabl] {KF : PySem.W.Frag} {H : Hp} {S : Store} {T : List (Addr × HO)} : ∀ {ps : List (Key × Dat)} {vs : List V} {L : LL}, SR H L S T → Ls L vs (ps.map pairD) → ∃ L' as kvs, Lle L L' ∧ vs = as.map V.ref ∧ Paired (fun p (kv : Key × V) => SqT KF H p [kV kv.1, kv.2]) as kvs ∧ PD L' kvs ps ∧ SR H L' S T
  | [], [], L, s, _ => ⟨L, [], [], .refl L, rfl, .nil, .nil, s⟩
  | (k, d) :: ps, v :: vs, L, s, h => by
    obtain ⟨a, ws, rfl, ha, s1, p1⟩ := s.tuple h.1
    match ws, p1, ha, s1 with
    | [w1, w2], p1, ha, s1 =>
      obtain rfl := kOf_v s1 p1.1 (kOf_key k)
      obtain ⟨L', as, kvs, l, e, pr, pd, s2⟩ := pairs_rel s1 (Ls.le LaddL.le h.2)
      subst e
      exact ⟨L', a :: as, (k, w2) :: kvs, LaddL.le.trans l, rfl, .cons (.of ha) pr, .cons k (l _ _ p1.2.1) pd, s2⟩
    | [], p1, _, _ => exact p1.elim
    | [_], p1, _, _ => exact p1.2.elim
    | _ :: _ :: _ :: _, p1, _, _ => exact p1.2.2.elim
  | [], _ :: _, _, _, h => h.elim
  | _ :: _, [], _, _, h => h.elim
theorem dcb_dictP [Tabl] (hc : X.calm = true) : DCb X (.type "dict") (fun xs H Q => ∃ (a : Addr) (ps : List Addr) (kvs : List (Key × V)), xs = [.ref a] ∧ SqL X.K H a (ps.map V.ref) ∧ Paired (fun p kv => SqT X.K H p [kV kv.1, kv.2]) ps kvs ∧
    ∀ p, H p = none → Q (.ref p) (upd H p (.dK (mergeK [] kvs)))) gDictP := ⟨call_dictP hc, fun {xs ds L H S T K Q} hs p h hq => by
  unfold gDictP at h
  split at h
  · obtain ⟨v, rfl, pv⟩ := p.one
    obtain ⟨ps, e, h⟩ := h
    obtain ⟨a, vs, rfl, h1, s1, p1⟩ := hs.list pv (lstD_view e)
    obtain ⟨L', as, kvs, l, ev, pr, pd, s2⟩ := pairs_rel (KF := X.K) s1 p1
    subst ev
    have pm := PD.merge pd (kvs := []) (ps := []) .nil
    refine ⟨a, as, kvs, rfl, .of h1, pr, fun q hn => ?_⟩
    exact hq _ _ _ _ _ ((LaddL.le.trans l).trans Ladd.le) Ladd.here (s2.cell hn (ho_dct pm) pm.out.2) h
  · exact h.elim⟩
end
section
variable {S : Store} {K : KE} {x y : Dat} {ps : List (Key × Dat)} {k : Key} {d : Dat} {dl : Env'} {X : KX} {ud uy : UE}
theorem x_dg (hv : view S x = some (dctD ps)) (hk : kOf y = some k) (hd : valD ps k = some d) (h : K d S) : gDG x y S K := ⟨ps, k, d, hv, hk, hd, h⟩
theorem x_di {f : Bool → Bool} (hv : view S x = some (dctD ps)) (hk : kOf y = some k) (h : K (.bl (f (valD ps k).isSome)) S) : gDI f y x S K := ⟨ps, k, hv, hk, h⟩
theorem x_dp {n : Nat} {KS : Store → Prop} (hv : S[n]? = some (dctD ps)) (hk : kOf y = some k) (hl : ps.length < sizeLine) (h : KS (S.set n (dctD (putD ps k d)))) : gDP (.cell n) y d S KS := ⟨ps, k, hv, hk, hl, h⟩
theorem x_dget (h : ud dl S (fun d S1 => (∃ ps, view S1 d = some (dctD ps)) ∧ uy dl S1 (fun y S2 => ∃ ps k, view S2 d = some (dctD ps) ∧ kOf y = some k ∧ K ((valD ps k).getD .non) S2) X) X) : uDGet ud uy dl S K X := h
end
end DL
/-! DY20: sorted(t), sorted(set(t)), t a tuple of ints. -/
namespace DL
open PySem PySem.Spec L2 PyProof.Rows
section
variable {X : Cx} {W : WX}
def rSortU (K : PySem.W.Frag) : List V → Hp → VK → Prop := fun vs H Q => ∃ (a : Addr) (ns : List Int), vs = [V.ref a] ∧ SqT K H a (ns.map V.int) ∧ ns.length < 64 ∧
  ∀ (ys : List Int) (p : Addr), ys.Perm ns → ys.Pairwise (· ≤ ·) → H p = none → Q (.ref p) (upd H p (.lst (ys.map V.int)))
theorem cr_sortU : CallR X (.builtin "sorted") (rSortU X.K) := by
  intro pins s σ H xs us Q I r q
  obtain ⟨a, ns, ex, hd, h64, q⟩ := q
  subst ex
  obtain ⟨u, eu, rx⟩ := vals1 r
  subst eu
  cases rx
  obtain ⟨its, rv, ⟨o, ho, hoc, kk, hod⟩, hz⟩ := I.tuple hd
  have hi := intsAre_of rv
  have hl : its.length = ns.length := hi.length
  refine Calls.call_function_entry PyProof.Rows.kind_sorted PyProof.Rows.plain_sorted PyProof.Rows.entry_sorted (PyProof.Rows.args_sorted1 _) ?_
  unfold Builtin.«sorted»
  refine wpAny_bind (m := checkCount "sorted" 1 1 _) (wpAny_pure ?_)
  refine wpAny_bind (wpAny_collect_seq a (.inr rfl) ho hoc hod (fun h' hk => ?_) (by rw [List.size_toArray, hl, sizeLine_eq]; omega))
  have I1 : Inv X pins σ H { s with heap := h' } := I.kept (t' := s.toks) hk
  have hS : IntsAre its ns := hi
  refine wpAny_bind (wpAny_newList ?_ (by show its.toArray.toList.length ≤ _; rw [List.toList_toArray, hl, sizeLine_eq]; omega))
  have hoL : (h'.push (seqObj "list" its.toArray 0)).get? h'.objs.size = some (seqObj "list" its.toArray 0) := Heap.get?_push_size _ rfl
  show wpAny _ _ _ _ _ { s with heap := h'.push (seqObj "list" its.toArray 0) }
  refine wpAny_bind (wpAny_holding (wpAny_call_entry PyProof.Rows.slot_list_sort ⟨_, hoL, rfl⟩ PyProof.Rows.entry_list_sort
    (PyProof.Rows.list_sort_tree (s := { s with heap := h'.push (seqObj "list" its.toArray 0) }) hoL hS (by rw [hl]; exact h64) fun out ys g1 g2 g3 => ⟨_, rfl, ?_⟩) (PyProof.Rows.args_list_sort _)))
  obtain ⟨e', he'⟩ := PyProof.Rows.sortedHeap_at (vs := its) (out := out) hoL
  have hlen : (ys.map V.int).length ≤ sizeLine := by
    rw [List.length_map, g2.length_eq]
    exact Nat.le_trans (Nat.le_of_lt h64) (by decide)
  refine wpAny_pure ⟨_, rfl, .ref h'.objs.size, upd H h'.objs.size (.lst (ys.map V.int)), I1.laid (t' := s.toks) (fun b u e => ?_) (Nat.le_refl _)
    (show ObjOk X.prog X.w _ _ _ (.lst (ys.map V.int)) from ⟨hlen, out.toList, e', vals_of_ints g1, by rw [Array.toArray_toList]; exact he'⟩), rfl, q ys _ g2 g3 (I1.hok.fresh (Nat.le_refl _))⟩
  have hb : b < h'.objs.size := Heap.lt_size e
  rw [PyProof.Rows.sortedHeap_old (Nat.ne_of_lt hb) (by rw [size_push']; exact Nat.lt_succ_of_lt hb)]
  exact Heap.get?_push_of_some _ e
/-- sorted(t), t a tuple of ints -/
def gSortU : GL := fun ds S K => match ds with
  | [.tup xs] => ∃ ks : List Int, xs = ks.map Dat.int ∧ ks.length < 64 ∧ ∀ ys : List Int, ys.Perm ks → ys.Pairwise (· ≤ ·) → K (.lst (ys.map Dat.int)) S
  | _ => False
theorem dcb_sortU [Tabl] : DCb X (.builtin "sorted") (rSortU X.K) gSortU := ⟨cr_sortU, fun {xs ds L H S T K Q} hs p h hq => by
  unfold gSortU at h
  split at h
  · obtain ⟨v, rfl, pv⟩ := p.one
    obtain ⟨ks, rfl, hl, h⟩ := h
    obtain ⟨a, vs, rfl, h1, s1, p1⟩ := hs.tuple pv
    rw [p1.ints s1] at h1
    refine ⟨a, ks, rfl, .of h1, hl, fun ys q hp hsrt hnew => ?_⟩
    obtain ⟨L2, l2, p2, s2⟩ := ints_rel hs ys
    exact hq _ _ _ _ S (l2.trans Ladd.le) Ladd.here (s2.lst hnew p2) (h ys hp hsrt)
  · exact h.elim⟩
/-! set(t) -/
def rSetI (K : PySem.W.Frag) (w : World) : List V → Hp → VK → Prop := fun xs H Q => ∃ (a : Addr) (ns : List Int), xs = [.ref a] ∧ SqT K H a (ns.map V.int) ∧ ns.length < 60 ∧
  ∀ (p : Addr) (S : Int → Bool) (c : Nat), H p = none → (∀ k : Int, S k = true ↔ k ∈ ns) → c ≤ ns.length → Q (.ref p) (upd H p (SetO w p S c))
theorem cr_setI (hc : X.calm = true) : CallR X (.type "set") (rSetI X.K X.w) := by
  intro pins s σ H xs us Q I r q
  obtain ⟨a, ns, ex, hd, h60, q⟩ := q
  subst ex
  obtain ⟨u, eu, rx⟩ := vals1 r
  subst eu
  cases rx
  obtain ⟨its, rv, ht, hz⟩ := I.tuple hd
  have hi := intsAre_of rv
  refine call_set_tupI ns (I.ok.hd hc) ht (by rw [List.toList_toArray]; exact hi) (show ns.length + 1 < scanBound from Nat.lt_of_lt_of_le (show ns.length + 1 < 64 by omega) (by decide +kernel)) fun h' tk c R hcl k => ?_
  exact ⟨.ref _, upd H s.heap.objs.size (SetO X.w s.heap.objs.size (fun j => decide (j ∈ ns)) c), I.laid (t' := tk) k (Nat.le_refl _) (setO_new R), rfl, q _ _ _ (I.hok.fresh (Nat.le_refl _)) (fun k => by simp) hcl⟩
/-- sorted(set(e)) -/
def uSortSet (ue : UE) : UE := fun dl S K X => ue dl S (fun d S1 => ∃ ns : List Int, d = .tup (ns.map Dat.int) ∧ ns.length < 60 ∧ ∀ ys : List Int, ys.Pairwise (· < ·) → (∀ k, k ∈ ys ↔ k ∈ ns) → K (.lst (ys.map Dat.int)) S1) X
theorem upd_fresh {H : Hp} {p q : Addr} {o : HO} (h : upd H p o q = none) : H q = none := by
  by_cases e : q = p
  · subst e; rw [upd_same] at h; cases h
  · rwa [upd_ne e] at h
theorem de_sortset [Tabl] {e : Expr} {te : TE} {ue : UE} {p1 p2 pos pos2 : Pos} (hc : X.calm = true) (h1 : X.mg "sorted" = none) (h2 : X.mg "set" = none) (he : DE X W e te ue)
    (b1 : bootBuiltins "sorted" = some (.builtin "sorted") := by decide +kernel) (b2 : bootBuiltins "set" = some (.type "set") := by decide +kernel)
    (g1 : Gl X "sorted" := by rfl) (g2 : Gl X "set" := by rfl) (s1 : starEach [e] X.env = [(false, eval e X.env)] := by rfl)
    (s2 : starEach [.Call (.Name "set" p2) [e] [] pos2] X.env = [(false, eval (.Call (.Name "set" p2) [e] [] pos2) X.env)] := by rfl) :
    DE X W (.Call (.Name "sorted" p1) [.Call (.Name "set" p2) [e] [] pos2] [] pos) (tCB (rSortedSet X.w) (tCons (tCB (rSetI X.K X.w) (tCons te tNil)) tNil)) (uSortSet ue) := by
  have a1 : PA X [e] (tCons te tNil) := pa_cons he.run pa_nil s1
  refine ⟨pe_callB (cr_sortedSet hc) g1 h1 b1 (pa_cons (pe_callTy (cr_setI hc) g2 h2 b2 a1 (by decide) (by decide) s1 rfl) pa_nil s2) (by decide) (by decide) s2 rfl, fun {sg dl L H S T K X' Q} hE hs h hq hx => ?_⟩
  refine he.imp hE hs h (fun v d L1 H1 S1 l1 p1 s1 ⟨ns, ed, hl, k1⟩ => ?_) hx
  subst ed
  obtain ⟨a, vs, rfl, hv, s2, p2⟩ := s1.tuple p1
  rw [p2.ints s2] at hv
  refine ⟨a, ns, rfl, .of hv, hl, fun p F c hp hF hcl => ⟨p, F, c, rfl, upd_same, by omega, fun ys q hsrt hm hlen hn => ?_⟩⟩
  have s3 : SR (upd H1 p (SetO X.w p F c)) L1 S1 T := by
    obtain ⟨rho, x⟩ := s1
    exact ⟨rho, x.new hp⟩
  obtain ⟨L2, l2, p3, s4⟩ := ints_rel s3 ys
  exact hq _ _ _ _ S1 ((l1.trans l2).trans Ladd.le) Ladd.here (s4.lst hn p3) (k1 ys hsrt fun k => (hm k).trans (hF k))
/-! e[::-1], a list -/
def uRevL (ue : UE) : UE := fun dl S K X => ue dl S (fun d S1 => ∃ xs, lstD S1 d = some xs ∧ K (.lst xs.reverse) S1) X
theorem Ls.rev {L : LL} : ∀ {vs : List V} {ds : List Dat}, Ls L vs ds → Ls L vs.reverse ds.reverse
  | [], [], h => h
  | v :: vs, d :: ds, h => by rw [List.reverse_cons, List.reverse_cons]; exact (Ls.rev h.2).append ⟨h.1, True.intro⟩
  | [], _ :: _, h => h.elim
  | _ :: _, [], h => h.elim
theorem de_revL [Tabl] {e : Expr} {te : TE} {ue : UE} {k : Nat} {p1 p2 p3 pos : Pos} (he : DE X W e te ue) : DE X W (.Subscript e (.Slice none none (some (.UnaryOp .USub (.Constant (.int 1) k p1) p2)) p3) pos) (tRevL X.K te) (uRevL ue) :=
  ⟨pe_revL he.run, fun {sg dl L H S T K X' Q} hE hs h hq hx => he.imp hE hs h (fun v d L1 H1 S1 l1 p1 s1 ⟨xs, hv, k1⟩ => by
    obtain ⟨a, vs, rfl, h1, s2, p2⟩ := s1.list p1 (lstD_view hv)
    exact ⟨a, vs, rfl, .of h1, fun p hp => hq _ _ _ _ S1 ((l1.trans LaddL.le).trans Ladd.le) Ladd.here (s2.lst hp p2.rev) k1⟩) hx⟩
end
section
variable {S : Store} {K : KE} {dl : Env'} {X : KX} {ue : UE}
theorem x_sortU {ks : List Int} (h : ks.length < 64) (k : ∀ ys : List Int, ys.Perm ks → ys.Pairwise (· ≤ ·) → K (.lst (ys.map Dat.int)) S) : gSortU [.tup (ks.map Dat.int)] S K := ⟨ks, rfl, h, k⟩
theorem x_sortset (h : ue dl S (fun d S1 => ∃ ns : List Int, d = .tup (ns.map Dat.int) ∧ ns.length < 60 ∧ ∀ ys : List Int, ys.Pairwise (· < ·) → (∀ k, k ∈ ys ↔ k ∈ ns) → K (.lst (ys.map Dat.int)) S1) X) : uSortSet ue dl S K X := h
end
end DL
/-! HX1: facts of own error classes, as Bools. -/
namespace DX
open PySem PySem.Spec PyProof.Rows L2 He
/-- OexC's class object, looked at -/
def clsB (K : PySem.W.Frag) (C : Addr) : Bool := match K.lookup C with
  | some ⟨.type t, _, .cls cd, sl⟩ => decide (t = "type") && (cd.hasDict && (!cd.hasDel && ((match cd.mro with
    | .ref c :: bm => decide (c = C) && PySem.HandSPX.refsVE bm
    | _ => false) && (match sl.toList with
    | [_, _, _, _, some (.builtin n), _] => decide (n = "ValueError.__new__")
    | _ => false))))
  | _ => false
def oexB (K : PySem.W.Frag) (C : Addr) : Bool := clsB K C && (eqO (PySem.W.findIn K (.ref C) "__setattr__") (some (some (.builtin "object.__setattr__"))) && (decide (PySem.W.subIn K (.ref C) (.type "BaseException") = some true) && (decide (PySem.W.typeIn K (.ref C) = some (.type "type")) && PySem.W.keepIn K (.ref C))))
theorem clsB_ok {K : PySem.W.Frag} {C : Addr} (h : clsB K C = true) : ∃ nm q N bs bm sn sub ab col dd k0 k1 k2 k3 k5, K.lookup C = some (excClassObj nm q C N bs bm true sn sub ab col dd k0 k1 k2 k3 k5 "ValueError.__new__") ∧ PySem.HandSPX.refsVE bm = true := by
  unfold clsB at h
  split at h
  · rename_i t od cd sl hl
    obtain ⟨h1, h⟩ := ba h
    obtain ⟨h2, h⟩ := ba h
    obtain ⟨h3, h⟩ := ba h
    obtain ⟨h4, h5⟩ := ba h
    have e1 := of_decide_eq_true h1
    subst e1
    split at h4
    · rename_i c bm hm
      obtain ⟨h6, h7⟩ := ba h4
      have e2 := of_decide_eq_true h6
      subst e2
      split at h5
      · rename_i k0 k1 k2 k3 n k5 hs
        have e3 := of_decide_eq_true h5
        subst e3
        obtain ⟨nm, bs, mro, ns, qn, hd, sn, sb, ab, col, del⟩ := cd
        have h3' : del = false := by simpa using h3
        have h2' : hd = true := h2
        have hm' : mro = .ref c :: bm := hm
        have hs' : sl = #[k0, k1, k2, k3, some (.builtin "ValueError.__new__"), k5] := by
          have := congrArg List.toArray hs
          simpa using this
        subst h3' h2' hm' hs'
        exact ⟨nm, qn, ns, bs, bm, sn, sb, ab, col, od, k0, k1, k2, k3, k5, hl, h7⟩
      · cases h5
    · cases h4
  · cases h
theorem oexB_ok {K : PySem.W.Frag} {C : Addr} (h : oexB K C = true) : OexC K C := by
  obtain ⟨h1, h⟩ := ba h
  obtain ⟨h2, h⟩ := ba h
  obtain ⟨h3, h⟩ := ba h
  obtain ⟨h4, h5⟩ := ba h
  exact ⟨clsB_ok h1, eqO_ok h2, of_decide_eq_true h3, of_decide_eq_true h4, h5⟩
def noneV : Value → Bool
  | .none => true
  | _ => false
theorem noneV_ok {v : Value} (h : noneV v = true) : v = .none := by
  cases v <;> first | rfl | cases h
/-- the __init__ of an own error: its class's name, its words -/
structure SupD where
  cls : Str
  qual : Str
  params : Arguments
  body : List Stmt
  scope : Scope
abbrev SupW : Type := Option (Str × Str × Arguments × FuncBody × Scope × Addr × List Str × Addr)
def supW (K : PySem.W.Frag) (f : Addr) : SupW := match K.lookup f with
  | some ⟨_, _, .func fd, _⟩ => some (fd.name, fd.qualname, fd.params, fd.body, fd.scope, fd.globals, fd.closure.map (·.1), fd.builtins)
  | _ => none
def SupD.val (d : SupD) : SupW := some ("__init__", d.qual, d.params, .stmts d.body, d.scope, mainGlobals, ["__class__"], builtinsNs)
abbrev initAd (K : PySem.W.Frag) (x : Str) : Addr := ma K (ga K x) "__init__"
def SupD.ok (K : PySem.W.Frag) (file : Str) (d : SupD) : Bool := oexB K (ga K d.cls) && ((match K.lookup (initAd K d.cls) with
  | some ⟨_, _, .func fd, _⟩ => PySem.W.codeIn K fd.code d.qual && (noneV fd.defaults && ((match fd.code with
    | .ref c => (match K.lookup c with
      | some ⟨_, _, .fields vs, _⟩ => (match (vs[2]? : Option Value) with
        | some (Value.str fl _) => file == fl
        | _ => false)
      | _ => false)
    | _ => false) && (match fd.closure with
    | [(_, cc)] => (match K.lookup cc with
      | some ⟨_, _, .cell (some (.ref C)), _⟩ => decide (C = ga K d.cls)
      | _ => false)
    | _ => false)))
  | _ => false) && (eqO (PySem.W.ks_superIn K (ga K d.cls) (ga K d.cls) "__init__") (some (some (.builtin "ValueError.__init__"))) && (decide (PySem.W.mroIn K (ga K d.cls) (.ref (ga K d.cls)) = some true) && (decide (PySem.W.subIn K (.ref (ga K d.cls)) (.type "ValueError") = some true) &&
  (eqO (PySem.W.nsIn K PySem.cStatics "thirdparty.any") (some none) && (eqO (PySem.W.findIn K (.ref (ga K d.cls)) "__init__") (some (some (.ref (initAd K d.cls)))) && decide (PySem.W.typeIn K (.ref (initAd K d.cls)) = some (.type "function"))))))))
theorem SupD.supK {P : Program} {K : PySem.W.Frag} {d : SupD} {x0 : Str} (e : supW K (initAd K d.cls) = d.val) (c : d.ok K P.main.file = true) (hp : ∃ ar, (d.params.posonlyargs ++ d.params.args).head? = some ar ∧ ar.arg = x0) (ht : (P.main.scope.names.lookup ("super" : Str)).isSome = false) :
    ∃ cc cda fd, SupK P K (ga K d.cls) (initAd K d.cls) cc cda "__init__" d.qual d.params d.body d.scope x0 fd ∧ fd.defaults = .none ∧ PySem.W.findIn K (.ref (ga K d.cls)) "__init__" = some (some (.ref (initAd K d.cls))) ∧ PySem.W.typeIn K (.ref (initAd K d.cls)) = some (.type "function") := by
  obtain ⟨h1, c⟩ := ba c
  obtain ⟨h2, c⟩ := ba c
  obtain ⟨h3, c⟩ := ba c
  obtain ⟨h4, c⟩ := ba c
  obtain ⟨h5, c⟩ := ba c
  obtain ⟨h6, c⟩ := ba c
  obtain ⟨h7, h8⟩ := ba c
  unfold supW at e
  split at h2
  · rename_i oc od fd osl lk
    rw [lk] at e
    obtain ⟨n1, n2, n3, n4, n5, n6, n7, n8, n9, n10, n11, n12, n13, n14, n15⟩ := fd
    have e2 : (some (n1, n2, n3, n4, n5, n6, n7.map (·.1), n15) : SupW) = (some ("__init__", d.qual, d.params, .stmts d.body, d.scope, mainGlobals, ["__class__"], builtinsNs) : SupW) := e
    simp only [Option.some.injEq, Prod.mk.injEq] at e2
    obtain ⟨a1, a2, a3, a4, a5, a6, a7, a8⟩ := e2
    obtain ⟨g1, g0⟩ := ba h2
    obtain ⟨gn, g0⟩ := ba g0
    obtain ⟨g2, g3⟩ := ba g0
    have gn : n8 = .none := noneV_ok gn
    subst gn
    split at g3
    · rename_i nm cc hcl
      have hcl : n7 = [(nm, cc)] := hcl
      subst hcl
      have a7 : [nm] = [("__class__" : Str)] := a7
      injection a7 with a7
      subst a1 a2 a3 a4 a5 a6 a7 a8
      split at g3
      · rename_i cl cld C csl lc
        have eC := of_decide_eq_true g3
        subst eC
        split at g2
        · rename_i cda hcd
          have hcd : n13 = .ref cda := hcd
          subst hcd
          have g4 : (match K.lookup cda with
            | some ⟨_, _, .fields vs, _⟩ => (match (vs[2]? : Option Value) with
              | some (Value.str fl _) => P.main.file == fl
              | _ => false)
            | _ => false) = true := g2
          cases lcd : K.lookup cda with
          | none => rw [lcd] at g4; cases g4
          | some o =>
            obtain ⟨kc, kd, dt, ksl⟩ := o
            rw [lcd] at g4
            cases dt with
            | fields vs =>
              have g5 : (match (vs[2]? : Option Value) with
                | some (Value.str fl _) => P.main.file == fl
                | _ => false) = true := g4
              cases hv : (vs[2]? : Option Value) with
              | none => rw [hv] at g5; cases g5
              | some v =>
                rw [hv] at g5
                cases v with
                | str fl tf => exact ⟨cc, cda, _, ⟨⟨oc, od, osl, _, _, _, _, _, _, rfl, lk⟩, g1, ⟨kc, kd, vs, ksl, fl, tf, lcd, hv, g5⟩, ⟨cl, cld, csl, lc⟩, oexB_ok h1, eqO_ok h3, of_decide_eq_true h4, of_decide_eq_true h5, eqO_ok h6, hp, ht⟩, rfl, eqO_ok h7, of_decide_eq_true h8⟩
                | _ => cases g5
            | _ => cases g4
        · cases g2
      · cases g3
    · cases g3
  · cases h2
/-- such an __init__ gets its arguments -/
theorem SupK.binds {P : Program} {K : PySem.W.Frag} {C f cc cda : Addr} {name qual x0 : Str} {params : Arguments} {body : List Stmt} {scope : Scope} {fd : FuncData} {ps : List Str} (T : SupK P K C f cc cda name qual params body scope x0 fd) (hd : fd.defaults = .none)
    (h : ∀ (kV doc pm : Value) (an : Option Addr) (cdv ct : Value) (us : List Value), us.length = ps.length → bindArgs (PySem.W.ksFn name qual params body scope .none kV doc pm an cdv ct cc) ⟨us, []⟩ = pure (ps.zip us)) : Binds K fd ps [] := by
  obtain ⟨oc, od, osl, dV, kV, doc, pm, an, ct, rfl, lk⟩ := T.fn
  have e : dV = .none := hd
  subst e
  exact .all (h kV doc pm an _ ct)
end DX
/-! HX2: the head's Hook: facts, defs, own errors' __init__s, tables. -/
namespace DX
open PySem PySem.Spec PyProof.Rows L2 He
structure SaysY (fa : List Fa) (fn : List DefD) (sd : List SupD) (tf : List Defn) (file : Str) (ex : PySem.W.Frag → Bool) (h : Heap) (K : PySem.W.Frag) : Prop where
  d : SaysD fa fn K
  sup : ∀ s ∈ sd, supW K (initAd K s.cls) = s.val ∧ s.ok K file = true
  more : ex K = true
  hd : ∀ p ∈ tf, PySem.W.codeHdIn K (cT K p).1 (cT K p).2 = true
  out : ∀ p ∈ tf, K.lookup (cT K p).2 = none
  empty : ∀ p ∈ tf, h.get? (cT K p).2 = some { cls := .none, data := .fields #[] }
abbrev AlY : Type := AlD × List SupW × Bool
def frY (g : Addr → Option Obj) (n : Nat) : PySem.W.Frag := frT g (PySem.cStatics :: asD g n)
def obsK (fa : List Fa) (fn : List DefD) (sd : List SupD) (tf : List Defn) (file : Str) (ex : PySem.W.Frag → Bool) (g : Addr → Option Obj) (K : PySem.W.Frag) : AlY := (obsD fa fn K, sd.map (fun s => supW K (initAd K s.cls)), (sd.all fun s => s.ok K file) && (ex K && tabsB g tf K))
def obsY (n : Nat) (fa : List Fa) (fn : List DefD) (sd : List SupD) (tf : List Defn) (file : Str) (ex : PySem.W.Frag → Bool) (g : Addr → Option Obj) : AlY := obsK fa fn sd tf file ex g (frY g n)
def valY (fn : List DefD) (sd : List SupD) : AlY := (valD fn, sd.map SupD.val, true)
theorem map_at {α β : Type} {f g : α → β} : ∀ {l : List α}, l.map f = l.map g → ∀ x ∈ l, f x = g x
  | [], _, x, h => by cases h
  | y :: r, e, x, h => by
    simp only [List.map_cons, List.cons.injEq] at e
    rcases List.mem_cons.mp h with q | q
    · subst q; exact e.1
    · exact map_at e.2 x q
theorem saysY_of {n : Nat} {fa : List Fa} {fn : List DefD} {sd : List SupD} {tf : List Defn} {file : Str} {ex : PySem.W.Frag → Bool} {h : Heap} (e : obsY n fa fn sd tf file ex h.get? = valY fn sd) : SaysY fa fn sd tf file ex h (frY h.get? n) := by
  have e1 : obsD fa fn (frY h.get? n) = valD fn := congrArg (fun z : AlY => z.1) e
  have e2 : sd.map (fun s => supW (frY h.get? n) (initAd (frY h.get? n) s.cls)) = sd.map SupD.val := congrArg (fun z : AlY => z.2.1) e
  have e3 : ((sd.all fun s => s.ok (frY h.get? n) file) && (ex (frY h.get? n) && tabsB h.get? tf (frY h.get? n))) = true := congrArg (fun z : AlY => z.2.2) e
  obtain ⟨h1, h2⟩ := ba e3
  obtain ⟨h2, h3⟩ := ba h2
  have key : ∀ p ∈ tf, PySem.W.codeHdIn (frY h.get? n) (cT (frY h.get? n) p).1 (cT (frY h.get? n) p).2 = true ∧ ∃ o, h.get? (cT (frY h.get? n) p).2 = some o ∧ emptyTab o = true := fun p hp => by
    obtain ⟨k1, k2⟩ := ba (List.all_eq_true.mp h3 p hp)
    refine ⟨k1, ?_⟩
    cases q : h.get? (cT (frY h.get? n) p).2 with
    | none => rw [q] at k2; cases k2
    | some o => rw [q] at k2; exact ⟨o, rfl, k2⟩
  refine ⟨e1, fun s hs => ⟨map_at e2 s hs, List.all_eq_true.mp h1 s hs⟩, h2, fun p hp => (key p hp).1, fun p hp => ?_, fun p hp => ?_⟩
  · obtain ⟨_, o, q, z⟩ := key p hp
    exact frT_none q z
  · obtain ⟨_, o, q, z⟩ := key p hp
    rw [q, emptyTab_eq z]
def hookY (n : Nat) (fa : List Fa) (fn : List DefD) (sd : List SupD) (tf : List Defn) (file : Str) (ex : PySem.W.Frag → Bool) : PySem.W.Hook where
  α := AlY
  obs := fun s => obsY n fa fn sd tf file ex s.heap.get?
  val := fun _ => valY fn sd
  says := fun _ h => ∃ K : PySem.W.Frag, K.In h ∧ SaysY fa fn sd tf file ex h K
  of := fun _ _ e => ⟨_, frT_in, saysY_of e⟩
  keeps := fun _ _ _ ⟨K, hK, c⟩ k => ⟨K, PySem.W.Frag.In.keeps hK k, ⟨c.d, c.sup, c.more, c.hd, c.out, fun p hp => k _ _ (c.empty p hp)⟩⟩
theorem obsY_eq {n : Nat} {fa : List Fa} {fn : List DefD} {sd : List SupD} {tf : List Defn} {file : Str} {ex : PySem.W.Frag → Bool} {g : Addr → Option Obj} {s : Shared} (h : ∀ a, g a = s.heap.get? a) : obsY n fa fn sd tf file ex g = (hookY n fa fn sd tf file ex).obs s := by
  have e : g = s.heap.get? := funext h
  rw [e] <;> rfl
end DX
/-! HX3: the head's Hook with properties. -/
namespace DX
open PySem PySem.Spec PyProof.Rows L2 He
/-- a property: its class, its name, its getter's text -/
structure PrD where
  cls : Str
  name : Str
  qual : Str
  params : Arguments
  body : List Stmt
  scope : Scope
def propAd (K : PySem.W.Frag) (C : Addr) (m : Str) : Addr := match PySem.W.findIn K (.ref C) m with
  | some (some (.ref p)) => p
  | _ => 0
def gAd (K : PySem.W.Frag) (C : Addr) (m : Str) : Addr := match PySem.W.recIn K (propAd K C m) "property" with
  | some (.ref g :: _) => g
  | _ => 0
def prW (K : PySem.W.Frag) (d : PrD) : FnW := match K.lookup (gAd K (ga K d.cls) d.name) with
  | some ⟨_, _, .func fd, _⟩ => some (fd.name, fd.qualname, fd.params, fd.body, fd.scope, fd.globals, fd.closure, fd.builtins)
  | _ => none
def PrD.val (d : PrD) : FnW := some (d.name, d.qual, d.params, .stmts d.body, d.scope, mainGlobals, [], builtinsNs)
def PrD.ok (K : PySem.W.Frag) (d : PrD) : Bool := eqO (PySem.W.findIn K (.ref (ga K d.cls)) d.name) (some (some (.ref (propAd K (ga K d.cls) d.name)))) && (eqO (PySem.W.specialIn K (.ref (propAd K (ga K d.cls) d.name)) "__get__") (some (some (.builtin "property.__get__"))) &&
  (decide (PySem.W.takesIn K (.ref (propAd K (ga K d.cls) d.name)) = some true) && ((match PySem.W.recIn K (propAd K (ga K d.cls) d.name) "property" with
  | some (.ref g :: _) => decide (g = gAd K (ga K d.cls) d.name)
  | _ => false) && (PySem.W.keepIn K (.ref (gAd K (ga K d.cls) d.name)) && (match K.lookup (gAd K (ga K d.cls) d.name) with
  | some ⟨_, _, .func fd, _⟩ => PySem.W.codeIn K fd.code d.qual && (dflB K fd.defaults [] && kwdB K fd.kwdefaults [])
  | _ => false)))))
theorem PrD.prop {K : PySem.W.Frag} {d : PrD} (e : prW K d = d.val) (c : d.ok K = true) : PropOf K (ga K d.cls) d.name (propAd K (ga K d.cls) d.name) (gAd K (ga K d.cls) d.name) ∧ ∃ fd, FunD K d.name d.qual d.params d.body d.scope [] [] (gAd K (ga K d.cls) d.name) fd := by
  obtain ⟨h1, c⟩ := ba c
  obtain ⟨h2, c⟩ := ba c
  obtain ⟨h3, c⟩ := ba c
  obtain ⟨h4, c⟩ := ba c
  obtain ⟨h5, h6⟩ := ba c
  refine ⟨⟨eqO_ok h1, eqO_ok h2, of_decide_eq_true h3, ?_⟩, ?_⟩
  · split at h4
    · rename_i g rest q
      have := of_decide_eq_true h4
      exact ⟨rest, by rw [q, this]⟩
    · cases h4
  · unfold prW at e
    cases q : K.lookup (gAd K (ga K d.cls) d.name) with
    | none => rw [q] at h6; cases h6
    | some o =>
      obtain ⟨oc, od, dt, osl⟩ := o
      rw [q] at e h6
      cases dt with
      | func fd =>
        obtain ⟨n1, n2, n3, n4, n5, n6, n7, n8, n9, n10, n11, n12, n13, n14, n15⟩ := fd
        have e2 : (some (n1, n2, n3, n4, n5, n6, n7, n15) : FnW) = some (d.name, d.qual, d.params, .stmts d.body, d.scope, mainGlobals, [], builtinsNs) := e
        simp only [Option.some.injEq, Prod.mk.injEq] at e2
        obtain ⟨a1, a2, a3, a4, a5, a6, a7, a8⟩ := e2
        subst a1 a2 a3 a4 a5 a6 a7 a8
        obtain ⟨c1, c2⟩ := ba h6
        obtain ⟨c2, c3⟩ := ba c2
        exact ⟨_, ⟨⟨oc, od, _, _, _, _, _, _, _, osl, rfl, q, c1, dflB_ok c2, kwdB_ok c3⟩, h5⟩⟩
      | _ => cases h6
structure SaysZ (fa : List Fa) (fn : List DefD) (sd : List SupD) (pr : List PrD) (tf : List Defn) (file : Str) (ex : PySem.W.Frag → Bool) (h : Heap) (K : PySem.W.Frag) : Prop where
  y : SaysY fa fn sd tf file ex h K
  pr : ∀ d ∈ pr, prW K d = d.val ∧ d.ok K = true
abbrev AlZ : Type := AlY × List FnW × Bool
def obsZ (n : Nat) (fa : List Fa) (fn : List DefD) (sd : List SupD) (pr : List PrD) (tf : List Defn) (file : Str) (ex : PySem.W.Frag → Bool) (g : Addr → Option Obj) : AlZ := (obsK fa fn sd tf file ex g (frY g n), pr.map (prW (frY g n)), pr.all (PrD.ok (frY g n)))
def valZ (fn : List DefD) (sd : List SupD) (pr : List PrD) : AlZ := (valY fn sd, pr.map PrD.val, true)
theorem saysZ_of {n : Nat} {fa : List Fa} {fn : List DefD} {sd : List SupD} {pr : List PrD} {tf : List Defn} {file : Str} {ex : PySem.W.Frag → Bool} {h : Heap} (e : obsZ n fa fn sd pr tf file ex h.get? = valZ fn sd pr) : SaysZ fa fn sd pr tf file ex h (frY h.get? n) := by
  have e1 : obsY n fa fn sd tf file ex h.get? = valY fn sd := congrArg (fun z : AlZ => z.1) e
  have e2 : pr.map (prW (frY h.get? n)) = pr.map PrD.val := congrArg (fun z : AlZ => z.2.1) e
  have e3 : pr.all (PrD.ok (frY h.get? n)) = true := congrArg (fun z : AlZ => z.2.2) e
  exact ⟨saysY_of e1, fun d hd => ⟨map_at e2 d hd, List.all_eq_true.mp e3 d hd⟩⟩
def hookZ (n : Nat) (fa : List Fa) (fn : List DefD) (sd : List SupD) (pr : List PrD) (tf : List Defn) (file : Str) (ex : PySem.W.Frag → Bool) : PySem.W.Hook where
  α := AlZ
  obs := fun s => obsZ n fa fn sd pr tf file ex s.heap.get?
  val := fun _ => valZ fn sd pr
  says := fun _ h => ∃ K : PySem.W.Frag, K.In h ∧ SaysZ fa fn sd pr tf file ex h K
  of := fun _ _ e => ⟨_, frT_in, saysZ_of e⟩
  keeps := fun _ _ _ ⟨K, hK, c⟩ k => ⟨K, PySem.W.Frag.In.keeps hK k, ⟨⟨c.y.d, c.y.sup, c.y.more, c.y.hd, c.y.out, fun p hp => k _ _ (c.y.empty p hp)⟩, c.pr⟩⟩
theorem obsZ_eq {n : Nat} {fa : List Fa} {fn : List DefD} {sd : List SupD} {pr : List PrD} {tf : List Defn} {file : Str} {ex : PySem.W.Frag → Bool} {g : Addr → Option Obj} {s : Shared} (h : ∀ a, g a = s.heap.get? a) : obsZ n fa fn sd pr tf file ex g = (hookZ n fa fn sd pr tf file ex).obs s := by
  have e : g = s.heap.get? := funext h
  rw [e] <;> rfl
end DX
/-! SB: the promises of the laws' common defs: the bag, draws, same. -/
namespace DL
open PySem L2
/-- the bag of numbers that a law draws from -/
def IsBag (d : Dat) : Prop := ∃ (ns : List Int) (i r m c : Int), d = .lst [.lst (ns.map Dat.int), .int i, .int r, .int m, .int c] ∧ ns.length ≤ 63 ∧ 0 ≤ i ∧ 0 ≤ r ∧ 0 ≤ m ∧ m < 2147483629
def sp_law_bag (K : PySem.W.Frag) : Spec := fun ds S Kt _ => ∃ ns : List Int, ds = [.sq K ns] ∧ ns.length ≤ 63 ∧ ∀ bag, IsBag bag → Kt (.cell S.length) (S ++ [bag])
def sp_law_pull (K : PySem.W.Frag) : Spec := fun ds S Kt _ => ∃ (b : Nat) (n : Int) (bag : Dat), ds = [.cell b, .int n] ∧ 0 < n ∧ n < 1073741824 ∧ S[b]? = some bag ∧ IsBag bag ∧ ∀ (k : Nat) bag', (k : Int) < n → IsBag bag' → Kt (.int k) (S.set b bag')
/-- what one draws from -/
def drawn (S : Store) (d : Dat) (xs : List Dat) : Prop := (∃ z : Str, d = .str z ∧ z.length ≤ sizeLine ∧ xs = z.cps.toList.map fun c => .str (sgn c)) ∨ ((∀ z, d ≠ .str z) ∧ seqD S d = some xs)
def sp_law_of (K : PySem.W.Frag) : Spec := fun ds S Kt _ => ∃ (b : Nat) (d : Dat) (xs : List Dat) (bag : Dat), ds = [.cell b, d] ∧ drawn S d xs ∧ (∀ bag', IsBag bag' → drawn (S.set b bag') d xs) ∧ 0 < xs.length ∧ xs.length < 1073741824 ∧ S[b]? = some bag ∧ IsBag bag ∧
  ∀ (k : Nat) x bag', xs[k]? = some x → IsBag bag' → Kt x (S.set b bag')
/-- x and y are the same data, to the depth n -/
def SameD (S : Store) : Nat → Dat → Dat → Prop
  | 0, _, _ => False
  | n + 1, x, y => (y = .non ∧ x = .non) ∨ (∃ b, y = .bl b ∧ x = .bl b) ∨ (∃ b, y = .int b ∧ x = .int b) ∨ (∃ b, y = .str b ∧ x = .str b) ∨
    (∃ xs ys, x = .tup xs ∧ y = .tup ys ∧ xs.length = ys.length ∧ xs.length ≤ sizeLine ∧ ∀ (i : Nat) a b, xs[i]? = some a → ys[i]? = some b → SameD S n a b) ∨
    (∃ xs ys, lstD S x = some xs ∧ lstD S y = some ys ∧ xs.length = ys.length ∧ xs.length ≤ sizeLine ∧ ∀ (i : Nat) a b, xs[i]? = some a → ys[i]? = some b → SameD S n a b)
def sp_law_same (K : PySem.W.Frag) : Nat → Spec
  | 0 => fun _ _ _ _ => False
  | n + 1 => fun ds S Kt _ => ∃ x y, ds = [x, y] ∧ SameD S (n + 1) x y ∧ Kt (.bl true) S
theorem len_law_bag {K : PySem.W.Frag} {ds S Kt X} (h : sp_law_bag K ds S Kt X) : ds.length = 1 := by obtain ⟨_, rfl, _⟩ := h; rfl
theorem len_law_pull {K : PySem.W.Frag} {ds S Kt X} (h : sp_law_pull K ds S Kt X) : ds.length = 2 := by obtain ⟨_, _, _, rfl, _⟩ := h; rfl
theorem len_law_of {K : PySem.W.Frag} {ds S Kt X} (h : sp_law_of K ds S Kt X) : ds.length = 2 := by obtain ⟨_, _, _, _, rfl, _⟩ := h; rfl
theorem len_law_same {K : PySem.W.Frag} {n : Nat} {ds S Kt X} (h : sp_law_same K (n + 1) ds S Kt X) : ds.length = 2 := by obtain ⟨_, _, rfl, _⟩ := h; rfl
end DL
namespace DL
open PySem L2
def u_law_bag (K : PySem.W.Frag) : US :=
  (uSeq (uSet 1 (uC (.int 5632)))
    (uSeq (uFor (uSeqI (uSlQ K (uVar 0) uNo (uPart (uC (.int 63))))) (uName 2) (uSet 1 (uOp gMod (uCB gInt1 (uCons (uOp gAdd (uOp gAdd (uOp gMul (uVar 1) (uC (.int 48271))) (uOp gMul (uOp gMod (uCB gInt1 (uCons (uVar 2) uNil)) (uC (.int 1000003))) (uC (.int 911)))) (uC (.int 7))) uNil)) (uC (.int 2147483629)))))
    (uRet (uLstC (uCons (uCB gListT (uCons (uSlQ K (uVar 0) uNo (uPart (uC (.int 63)))) uNil)) (uCons (uC (.int 0)) (uCons (uC (.int 0)) (uCons (uVar 1) (uCons (uC (.int 0)) uNil)))))))))
def u_law_pull (K : PySem.W.Frag) : US :=
  (uSeq (uAsg (uOp gAdd (uOp gIx (uVar 0) (uC (.int 4))) (uC (.int 1))) (uGSub (uVar 0) (uC (.int 4)) gSetL))
    (uSeq (uIfS (uAnd (uTest (uOp gEq (uOp gIx (uVar 0) (uC (.int 2))) (uC (.int 0)))) (uTest (uOp gLt (uOp gIx (uVar 0) (uC (.int 1))) (uCB gLen (uCons (uOp gIx (uVar 0) (uC (.int 0))) uNil))))) (uSeq (uSet 2 (uOp gIx (uOp gIx (uVar 0) (uC (.int 0))) (uOp gIx (uVar 0) (uC (.int 1)))))
    (uSeq (uAsg (uOp gAdd (uOp gIx (uVar 0) (uC (.int 1))) (uC (.int 1))) (uGSub (uVar 0) (uC (.int 1)) gSetL))
    (uIfS (uTest (uOp gGe (uCB gAbs (uCons (uVar 2) uNil)) (uOp gPow (uC (.int 10)) (uC (.int 18))))) (uAsg (uCB gAbs (uCons (uVar 2) uNil)) (uGSub (uVar 0) (uC (.int 2)) gSetL)) (uAsg (uOp gMod (uCB gInt1 (uCons (uOp gAdd (uOp gAdd (uOp gMul (uOp gIx (uVar 0) (uC (.int 3))) (uC (.int 40692))) (uOp gMul (uOp gMod (uCB gInt1 (uCons (uVar 2) uNil)) (uC (.int 1000003))) (uC (.int 613)))) (uC (.int 11))) uNil)) (uC (.int 2147483629))) (uGSub (uVar 0) (uC (.int 3)) gSetL))))) uNext)
    (uSeq (uIfS (uTest (uOp gGt (uOp gIx (uVar 0) (uC (.int 2))) (uC (.int 0)))) (uSeq (uSet 3 (uOp gMod (uCB gInt1 (uCons (uOp gIx (uVar 0) (uC (.int 2))) uNil)) (uVar 1)))
    (uSeq (uAsg (uOp gFdiv (uOp gIx (uVar 0) (uC (.int 2))) (uVar 1)) (uGSub (uVar 0) (uC (.int 2)) gSetL))
    (uRet (uVar 3)))) uNext)
    (uSeq (uSet 4 (uOp gMod (uCB gInt1 (uCons (uOp gAdd (uOp gMul (uOp gIx (uVar 0) (uC (.int 3))) (uOp gIx (uVar 0) (uC (.int 3)))) (uOp gMul (uOp gIx (uVar 0) (uC (.int 4))) (uC (.int 7919)))) uNil)) (uC (.int 2147483587))))
    (uSeq (uAsg (uOp gMod (uCB gInt1 (uCons (uOp gAdd (uOp gAdd (uOp gMul (uVar 4) (uC (.int 16807))) (uOp gMul (uOp gIx (uVar 0) (uC (.int 3))) (uC (.int 69621)))) (uC (.int 12345))) uNil)) (uC (.int 2147483629))) (uGSub (uVar 0) (uC (.int 3)) gSetL))
    (uRet (uOp gMod (uCB gInt1 (uCons (uOp gFdiv (uOp gIx (uVar 0) (uC (.int 3))) (uC (.int 64))) uNil)) (uVar 1))))))))
def u_law_of (K : PySem.W.Frag) : US :=
  (uRet (uOp gIx (uVar 1) (uCall (sp_law_pull K) [] (uCons (uVar 0) (uCons (uCB gLen (uCons (uVar 1) uNil)) uNil)))))
def u_law_same (K : PySem.W.Frag) (F : Spec) : US :=
  (uSeq (uIfS (uTru (uCB (gIsi K) (uCons (uVar 1) (uCons (uTup (uCons (uC (.raw (.ty "list"))) (uCons (uC (.raw (.ty "tuple"))) uNil))) uNil)))) (uSeq (uIfS (uOr (uTest (uOp gNe (uCB (gIsi K) (uCons (uVar 0) (uCons (uC (.raw (.ty "list"))) uNil))) (uCB (gIsi K) (uCons (uVar 1) (uCons (uC (.raw (.ty "list"))) uNil))))) (uTest (uOp gNe (uCB (gIsi K) (uCons (uVar 0) (uCons (uC (.raw (.ty "tuple"))) uNil))) (uCB (gIsi K) (uCons (uVar 1) (uCons (uC (.raw (.ty "tuple"))) uNil)))))) (uRet (uC (.bl false))) uNext)
    (uRet (uAndV (uOp gEq (uCB gLen (uCons (uVar 0) uNil)) (uCB gLen (uCons (uVar 1) uNil))) (uCB (gBools fun bs => bs.all id) (uCons (uLc (uZ (uCons (uVar 0) (uCons (uVar 1) uNil))) [2, 3] (uGTup 2 (uGCons (uName 2) (uGCons (uName 3) uGNil))) uYes (uCall F [] (uCons (uVar 2) (uCons (uVar 3) uNil)))) uNil))))) uNext)
    (uSeq (uIfS (uOr (uTest (uOp (gIs id) (uVar 1) (uC .non))) (uTest (uOp (gIs id) (uVar 0) (uC .non)))) (uRet (uAndV (uOp (gIs id) (uVar 1) (uC .non)) (uOp (gIs id) (uVar 0) (uC .non)))) uNext)
    (uSeq (uIfS (uOr (uTest (uOp gNe (uCB (gIsi K) (uCons (uVar 1) (uCons (uC (.raw (.ty "bool"))) uNil))) (uCB (gIsi K) (uCons (uVar 0) (uCons (uC (.raw (.ty "bool"))) uNil))))) (uTest (uOp gNe (uCB (gIsi K) (uCons (uVar 1) (uCons (uC (.raw (.ty "int"))) uNil))) (uCB (gIsi K) (uCons (uVar 0) (uCons (uC (.raw (.ty "int"))) uNil)))))) (uRet (uC (.bl false))) uNext)
    (uRet (uAndV (uOp gEq (uCB (gIsi K) (uCons (uVar 1) (uCons (uC (.raw (.ty "str"))) uNil))) (uCB (gIsi K) (uCons (uVar 0) (uCons (uC (.raw (.ty "str"))) uNil)))) (uOp gEq (uVar 0) (uVar 1)))))))
end DL
namespace DL
open PySem L2
local macro_rules | `(tactic| walk_at "e1") => `(tactic| with_reducible first
  | refine x_var rfl ?_ | refine x_c ?_ | refine x_op ?_ | refine x_un ?_ | refine x_nil ?_ | refine x_cons ?_ | refine x_tup ?_ | refine x_lst ?_ | refine x_lstC ?_ | refine x_cb ?_ | refine x_call ?_ | refine x_if ?_
  | refine x_test ?_ | refine x_and ?_ | refine x_or ?_ | refine x_not ?_ | refine x_tru ?_ | refine x_andV ?_ | refine x_orV ?_ | refine x_notV ?_ | refine x_yes ?_ | refine x_chain ?_
  | refine x_bm ?_ | refine x_bm0 ?_ | refine x_part ?_ | refine x_no ?_ | refine x_sl ?_ | refine x_seqI ?_ | refine x_r1 ?_ | refine x_r2 ?_ | refine x_z ?_ | refine x_lc ?_ | refine x_lcC ?_ | refine x_lcW ?_)
local macro_rules | `(tactic| walk_at "s1") => `(tactic| with_reducible first
  | refine x_seq ?_ | refine x_next ?_ | refine x_break ?_ | refine x_cont ?_ | refine x_drop ?_ | refine x_ret ?_ | refine x_retN ?_ | refine x_ifS ?_ | refine x_set ?_ | refine x_asg ?_ | refine x_par ?_ | refine x_gsub ?_ | refine x_gnil ?_ | refine x_gcons ?_)
local macro_rules | `(tactic| walk_at "g1") => `(tactic| first
  | with_reducible refine x_iteT ?_ | with_reducible refine x_iteF ?_ | with_reducible refine x_tN ?_ | with_reducible refine x_tB ?_ | with_reducible refine x_tI ?_ | with_reducible refine x_tT ?_ | with_reducible refine x_tL ?_
  | with_reducible refine x_addI ?_ | with_reducible refine x_sub ?_ | with_reducible refine x_ltI ?_ | with_reducible refine x_leI ?_ | with_reducible refine x_gtI ?_ | with_reducible refine x_geI ?_ | with_reducible refine x_ltS ?_ | with_reducible refine x_leS ?_ | with_reducible refine x_gtS ?_ | with_reducible refine x_geS ?_
  | with_reducible refine x_eqI ?_ | with_reducible refine x_eqS ?_ | with_reducible refine x_eqB ?_ | with_reducible refine x_neI ?_ | with_reducible refine x_neS ?_ | with_reducible refine x_neB ?_ | with_reducible refine x_neg ?_
  | with_reducible refine x_inS ?_ | with_reducible refine x_notinS ?_ | with_reducible refine x_intI ?_ | with_reducible refine x_intB ?_ | with_reducible refine x_abs ?_ | with_reducible refine x_slL ?_
  | ((with_reducible refine x_is ?_ ?_); · rfl) | ((with_reducible refine x_isnot ?_ ?_); · rfl) | ((with_reducible refine x_isiD ?_ ?_ ?_); (next => rfl); (next => decide)) | ((with_reducible refine x_isiD2 ?_ ?_ ?_ ?_); (next => rfl); (next => decide); (next => decide)) | ((with_reducible refine x_name ?_ ?_); · exact of_decide_eq_true rfl) | ((with_reducible refine x_gtup ?_ ?_); · rfl))
local macro_rules | `(tactic| walk_at "d") => `(tactic| repeat (first | walk_at "e1" | walk_at "s1" | walk_at "g1" | ((with_reducible refine x_putL ?_ ?_); · rfl) | ((with_reducible refine x_szL ?_ ?_); · rfl) | dsimp only [List.set_cons_succ, List.set_cons_zero]))
local macro_rules | `(tactic| walk_at "i") => `(tactic| repeat (first | walk_at "e1" | walk_at "s1" | walk_at "g1" | ((with_reducible refine x_putL ?_ ?_); · rfl) | ((with_reducible refine x_szL ?_ ?_); · rfl) | ((with_reducible refine x_iteT2 ?_ ?_); · rfl) | ((with_reducible refine x_iteF2 ?_ ?_); · rfl) | dsimp only [List.set_cons_succ, List.set_cons_zero]))
theorem bag_below {n : Nat} {d : Dat} (h : IsBag d) : below n d := by
  obtain ⟨ns, i, r, m, c, rfl, _⟩ := h
  simp only [below, belows, true_and, and_true]
  exact below_ints ns
theorem drawn_below {S : Store} {d x : Dat} {xs : List Dat} {j : Nat} (h : drawn S d xs) (hS : belows S.length S) (hd : below S.length d) (hx : xs[j]? = some x) : below S.length x := by
  rcases h with ⟨z, rfl, hl, rfl⟩ | ⟨hn, h⟩
  · rw [List.getElem?_map] at hx
    obtain ⟨c, _, rfl⟩ := Option.map_eq_some_iff.mp hx
    simp only [below]
  · have hm := List.mem_of_getElem? hx
    cases d with
    | lst ys => simp only [seqD, Option.some.injEq] at h; subst h; simp only [below] at hd; exact belows_mem hd hm
    | tup ys => simp only [seqD, Option.some.injEq] at h; subst h; simp only [below] at hd; exact belows_mem hd hm
    | cell m =>
      simp only [seqD] at h
      split at h
      · rename_i zs e
        injection h with h
        subst h
        have := belows_mem hS (List.mem_of_getElem? e)
        simp only [below] at this
        exact belows_mem this hm
      · cases h
    | _ => simp [seqD] at h
theorem drawn_len {S : Store} {d : Dat} {xs : List Dat} (h : drawn S d xs) {K : KE} (k : K (.int xs.length) S) : gLen [d] S K := by
  rcases h with ⟨z, rfl, hl, rfl⟩ | ⟨hn, h⟩
  · refine x_lenS hl ?_
    rw [List.length_map] at k
    exact k
  · refine x_lenL h k
theorem drawn_ix {S : Store} {d x : Dat} {xs : List Dat} (h : drawn S d xs) {k : Nat} (e : xs[k]? = some x) {K : KE} (q : K x S) : gIx d (.int k) S K := by
  have hk := (List.getElem?_eq_some_iff.mp e).1
  rcases h with ⟨z, rfl, hl, rfl⟩ | ⟨hn, h⟩
  · rw [List.getElem?_map] at e
    obtain ⟨c, e2, rfl⟩ := Option.map_eq_some_iff.mp e
    refine x_ixS hl (c := c) ?_ q
    unfold atI ixN
    rw [if_pos (Int.natCast_nonneg k), if_pos (by have := (List.getElem?_eq_some_iff.mp e2).1; omega)]
    exact e2
  · refine x_ixL h ?_ q
    unfold atI ixN
    rw [if_pos (Int.natCast_nonneg k), if_pos (by omega)]
    simpa using e
theorem r_law_of {KF : PySem.W.Frag} {ds S K X} (h : sp_law_of KF ds S K X) (hb : belows S.length ds) (hS : belows S.length S) : u_law_of KF (endsOf S K X) (startD ["_law_bag_here", "_law_some"] ds) S := by
  obtain ⟨b, d, xs, bag, rfl, hd, hd2, h0, hn, hbag, hB, k⟩ := h
  have hbl : b < S.length := (List.getElem?_eq_some_iff.mp hbag).1
  show u_law_of KF (endsOf S K X) [some (.cell b), some d] S
  unfold u_law_of
  walk_at "d"
  refine drawn_len hd ?_
  walk_at "d"
  refine ⟨b, _, bag, rfl, by omega, by omega, hbag, hB, fun j bag' hj hB' => ?_⟩
  obtain ⟨x, hx⟩ : ∃ x, xs[j]? = some x := ⟨xs[j]'(by omega), List.getElem?_eq_getElem (by omega)⟩
  refine drawn_ix (hd2 bag' hB') hx ?_
  refine x_rtE ?_
  refine exit_set0 hS ?_ ?_ (k j x bag' hx hB')
  · exact bag_below hB'
  · exact drawn_below hd hS (by simp only [belows] at hb; exact hb.2.1) hx
theorem cutV_int (ns : List Int) (l h : Option Int) : ∃ ms : List Int, cutV (ns.map V.int) l h = ms.map V.int ∧ ms.length ≤ ns.length := by
  unfold cutV
  refine ⟨(ns.drop (HT.sIx (ns.map V.int).length 0 l)).take (HT.sIx (ns.map V.int).length (ns.map V.int).length h - HT.sIx (ns.map V.int).length 0 l), ?_, ?_⟩
  · rw [List.map_take, List.map_drop]
  · rw [List.length_take, List.length_drop]; omega
theorem r_law_bag {KF : PySem.W.Frag} {ds S K X} (h : sp_law_bag KF ds S K X) (hb : belows S.length ds) (hS : belows S.length S) : u_law_bag KF (endsOf S K X) (startD ["_law_script", "_law_mixed", "_law_cell"] ds) S := by
  obtain ⟨ns, rfl, hl, k⟩ := h
  show u_law_bag KF (endsOf S K X) [some (.sq KF ns), none, none] S
  obtain ⟨ms, hms, hml⟩ := cutV_int ns none (some 63)
  unfold u_law_bag
  walk_at "d"
  refine x_for ?_
  walk_at "d"
  refine x_slQ ?_
  walk_at "d"
  refine ⟨ns, ms, rfl, hms, ms.map Dat.int, rfl, fun j dl1 S1 => S1 = S ∧ ∃ m x2, dl1 = [some (.sq KF ns), some (.int m), x2] ∧ 0 ≤ m ∧ m < 2147483629, ⟨rfl, 5632, none, rfl, by decide, by decide⟩, ?_, ?_⟩
  · rintro j d dl1 S2 hj ⟨rfl, m, x2, rfl, hm, hm2⟩
    rw [List.getElem?_map] at hj
    obtain ⟨c, _, rfl⟩ := Option.map_eq_some_iff.mp hj
    refine ⟨rfl, ?_⟩
    walk_at "d"
    refine x_mul (.inr ⟨by decide, by decide⟩) ?_
    walk_at "d"
    refine x_mod (by decide) ?_
    walk_at "d"
    refine x_mul (.inr ⟨by decide, by decide⟩) ?_
    walk_at "d"
    refine x_mod (by decide) ?_
    walk_at "d"
    exact .inl ⟨rfl, _, _, rfl, Int.emod_nonneg _ (by decide), Int.emod_lt_of_pos _ (by decide)⟩
  · rintro dl1 S2 ⟨rfl, m, x2, rfl, hm, hm2⟩
    refine ⟨rfl, ?_⟩
    walk_at "d"
    refine x_slQ ?_
    walk_at "d"
    refine ⟨ns, ms, rfl, hms, ?_⟩
    walk_at "d"
    refine x_list rfl ?_
    walk_at "d"
    refine x_rtE ?_
    have hB : IsBag (.lst [.lst (ms.map Dat.int), .int 0, .int 0, .int m, .int 0]) := ⟨ms, 0, 0, m, 0, rfl, by omega, by decide, by decide, hm, hm2⟩
    exact exit_new hS (bag_below hB) (k _ hB)
section
variable {S : Store} {K : KE} {b : Nat} {d p q r s t : Dat}
theorem x_ixB {xs : List Dat} {m : Int} (hb : b < S.length) (h : atI xs m = some d) (k : K d (S.set b (.lst xs))) : gIx (.cell b) (.int m) (S.set b (.lst xs)) K :=
  x_ixL (xs := xs) (by simp [seqD, hb]) h k
theorem x_set4 {KS : Store → Prop} (hb : b < S.length) (k : KS (S.set b (.lst [p, q, r, s, d]))) : gSetL (.cell b) (.int 4) d (S.set b (.lst [p, q, r, s, t])) KS :=
  x_setL (xs := [p, q, r, s, t]) (j := 4) (by simp [hb]) rfl (by rw [List.set_set]; exact k)
theorem x_set3 {KS : Store → Prop} (hb : b < S.length) (k : KS (S.set b (.lst [p, q, r, d, t]))) : gSetL (.cell b) (.int 3) d (S.set b (.lst [p, q, r, s, t])) KS :=
  x_setL (xs := [p, q, r, s, t]) (j := 3) (by simp [hb]) rfl (by rw [List.set_set]; exact k)
theorem x_set2 {KS : Store → Prop} (hb : b < S.length) (k : KS (S.set b (.lst [p, q, d, s, t]))) : gSetL (.cell b) (.int 2) d (S.set b (.lst [p, q, r, s, t])) KS :=
  x_setL (xs := [p, q, r, s, t]) (j := 2) (by simp [hb]) rfl (by rw [List.set_set]; exact k)
theorem x_set1 {KS : Store → Prop} (hb : b < S.length) (k : KS (S.set b (.lst [p, d, r, s, t]))) : gSetL (.cell b) (.int 1) d (S.set b (.lst [p, q, r, s, t])) KS :=
  x_setL (xs := [p, q, r, s, t]) (j := 1) (by simp [hb]) rfl (by rw [List.set_set]; exact k)
theorem set_self {S : Store} {b : Nat} {d : Dat} (h : S[b]? = some d) : S = S.set b d := by
  obtain ⟨hb, e⟩ := List.getElem?_eq_some_iff.mp h
  apply List.ext_getElem?
  intro i
  by_cases hi : b = i
  · subst hi; rw [h, List.getElem?_set_self hb]
  · rw [List.getElem?_set_ne hi]
end
theorem cmul_l {i j : Int} (h : 0 ≤ i) (h2 : i < 2147483629) : CMul i j := .inl ⟨Int.lt_of_lt_of_le (by decide) h, Int.lt_trans h2 (by decide)⟩
theorem exit_bag {S : Store} {K : KE} {b : Nat} {n j i' r' m' c' : Int} {ns : List Int} (hS : belows S.length S) (k : ∀ (k : Nat) (bag' : Dat), (k : Int) < n → IsBag bag' → K (Dat.int k) (List.set S b bag')) (hl : ns.length ≤ 63) (h0 : 0 < n) (hj : 0 ≤ j) (hjn : j < n) (hi' : 0 ≤ i') (hr' : 0 ≤ r') (hm' : 0 ≤ m') (hm2' : m' < 2147483629) :
    ExitTo S K (.int j) (S.set b (.lst [.lst (ns.map Dat.int), .int i', .int r', .int m', .int c'])) := by
  refine exit_set0 hS ?_ (by simp only [below]) ?_
  · simp only [below, belows, true_and, and_true]; exact below_ints ns
  · have := k j.toNat _ (by omega) ⟨ns, i', r', m', c', rfl, hl, hi', hr', hm', hm2'⟩
    rwa [Int.toNat_of_nonneg hj] at this
local macro_rules | `(tactic| walk_at "b") => `(tactic| repeat (first | walk_at "e1" | walk_at "s1" | walk_at "g1" | ((with_reducible refine x_mul ?_ ?_); · first | exact Or.inr ⟨by decide, by decide⟩ | exact cmul_l (by assumption) (by assumption)) | ((with_reducible refine x_mod ?_ ?_); · first | assumption | decide) | ((with_reducible refine x_fdiv ?_ ?_); · first | exact ⟨by decide, by decide⟩ | exact ⟨by assumption, by assumption⟩) | with_reducible refine x_ixB (by assumption) rfl ?_ | with_reducible refine x_set4 (by assumption) ?_ | with_reducible refine x_set3 (by assumption) ?_ | with_reducible refine x_set2 (by assumption) ?_ | with_reducible refine x_set1 (by assumption) ?_ | ((with_reducible refine x_putL ?_ ?_); · rfl) | ((with_reducible refine x_szL ?_ ?_); · rfl) | dsimp only [List.set_cons_succ, List.set_cons_zero]))
local macro_rules | `(tactic| walk_at "tail") => `(tactic| (
  refine x_ite (fun e9 => ?_) (fun e9 => ?_)
  · walk_at "b"
    refine x_rtE ?_
    refine exit_bag (by assumption) (by assumption) (by assumption) (by assumption) (Int.emod_nonneg _ (by omega)) (Int.emod_lt_of_pos _ (by assumption)) (by assumption) (Int.ediv_nonneg (by assumption) (by omega)) (by assumption) (by assumption)
  · walk_at "b"
    refine x_rtE ?_
    refine exit_bag (by assumption) (by assumption) (by assumption) (by assumption) (Int.emod_nonneg _ (by omega)) (Int.emod_lt_of_pos _ (by assumption)) (by assumption) (by assumption) (Int.emod_nonneg _ (by decide)) (Int.emod_lt_of_pos _ (by decide))))
theorem r_law_pull {KF : PySem.W.Frag} {ds S K X} (h : sp_law_pull KF ds S K X) (hb : belows S.length ds) (hS : belows S.length S) : u_law_pull KF (endsOf S K X) (startD ["_law_bag_here", "_law_sides", "_law_cell", "_law_digit", "_law_twice"] ds) S := by
  obtain ⟨b, n, bag, rfl, h0, hn, hbag, ⟨ns, i, r, m, c, rfl, hl, hi, hr, hm, hm2⟩, k⟩ := h
  have hbl : b < S.length := (List.getElem?_eq_some_iff.mp hbag).1
  have key : ∀ S1 : Store, S1 = S.set b (.lst [.lst (ns.map Dat.int), .int i, .int r, .int m, .int c]) → u_law_pull KF (endsOf S K X) [some (.cell b), some (.int n), none, none, none] S1 := by
    rintro S1 rfl
    unfold u_law_pull
    walk_at "b"
    refine x_ite (fun e => ?_) (fun e => ?_)
    · walk_at "b"
      refine x_lenL rfl ?_
      walk_at "b"
      refine x_ite (fun e2 => ?_) (fun e2 => ?_)
      · walk_at "b"
        have hin : i < ns.length := by simpa using of_decide_eq_true e2
        obtain ⟨q, hq⟩ : ∃ q, ns[i.toNat]? = some q := ⟨ns[i.toNat]'(by omega), List.getElem?_eq_getElem (by omega)⟩
        have hat : atI (ns.map Dat.int) i = some (.int q) := by
          unfold atI ixN
          rw [if_pos hi, if_pos (by simpa using hin)]
          rw [Option.bind_some, List.getElem?_map, hq]; rfl
        refine x_ixL (xs := ns.map Dat.int) (d := .int q) rfl hat ?_
        walk_at "b"
        refine x_pow (m := 10) (n := 18) ⟨by decide, by decide, by decide⟩ ?_
        walk_at "b"
        refine x_ite (fun e3 => ?_) (fun e3 => ?_)
        · walk_at "b"
          have hr2 : (0 : Int) ≤ (if q < 0 then -q else q) := by split <;> omega
          generalize (if q < 0 then -q else q) = r2 at hr2
          have hi2 : 0 ≤ i + 1 := by omega
          generalize i + 1 = i2 at hi2
          walk_at "tail"
        · walk_at "b"
          have hi2 : 0 ≤ i + 1 := by omega
          generalize i + 1 = i2 at hi2
          have hm3 := Int.emod_nonneg (m * 40692 + q % 1000003 * 613 + 11) (b := 2147483629) (by decide)
          have hm4 := Int.emod_lt_of_pos (m * 40692 + q % 1000003 * 613 + 11) (b := 2147483629) (by decide)
          generalize (m * 40692 + q % 1000003 * 613 + 11) % 2147483629 = m2 at hm3 hm4
          walk_at "b"
          walk_at "tail"
      · walk_at "b"
        walk_at "tail"
    · walk_at "b"
      walk_at "tail"
  exact key S (set_self hbag)
theorem lstD_cases {S : Store} {x : Dat} {xs : List Dat} (h : lstD S x = some xs) : x = .lst xs ∨ ∃ n, x = .cell n ∧ S[n]? = some (.lst xs) := by
  have e := lstD_view h
  cases x with
  | lst ys => left; simp only [view, Option.some.injEq, Dat.lst.injEq] at e; rw [e]
  | cell n => right; exact ⟨n, rfl, e⟩
  | tup ys => simp [view] at e
  | _ => simp [view] at e
theorem lstD_ty {S : Store} {x : Dat} {xs : List Dat} (h : lstD S x = some xs) : tyS S x = some "list" := by
  rcases lstD_cases h with rfl | ⟨n, rfl, e⟩
  · rfl
  · simp [tyS, e]
theorem lstD_seq {S : Store} {x : Dat} {xs : List Dat} (h : lstD S x = some xs) : seqD S x = some xs := by
  rcases lstD_cases h with rfl | ⟨n, rfl, e⟩
  · rfl
  · simp [seqD, e]
theorem lstD_draw {S : Store} {x : Dat} {xs : List Dat} (h : lstD S x = some xs) : drawD S x = some xs := by
  rcases lstD_cases h with rfl | ⟨n, rfl, e⟩
  · rfl
  · simp [drawD, seqD, e]
theorem lstD_raw {S : Store} {x : Dat} {xs : List Dat} (h : lstD S x = some xs) : noRaw x = true := by
  rcases lstD_cases h with rfl | ⟨n, rfl, e⟩ <;> rfl
theorem sp_same_of {KF : PySem.W.Frag} {n : Nat} {a b : Dat} {S : Store} {Kt : KE} {X : KX} (h : SameD S n a b) (k : Kt (.bl true) S) : sp_law_same KF n [a, b] S Kt X := by
  cases n with
  | zero => exact h.elim
  | succ n => exact ⟨a, b, rfl, h, k⟩
theorem same_lists {KF : PySem.W.Frag} {n : Nat} {S : Store} {K : KE} {X : KX} {x y : Dat} {xs ys : List Dat} (ex : seqD S x = some xs) (ey : seqD S y = some ys) (dx : drawD S x = some xs) (dy : drawD S y = some ys) (hl : xs.length = ys.length) (hs : xs.length ≤ sizeLine) (h : ∀ (i : Nat) a b, xs[i]? = some a → ys[i]? = some b → SameD S n a b)
    (hbt : ∀ b : Bool, below S.length (.bl b)) (k : K (.bl true) S) : (uRet (uAndV (uOp gEq (uCB gLen (uCons (uVar 0) uNil)) (uCB gLen (uCons (uVar 1) uNil))) (uCB (gBools fun bs => bs.all id) (uCons (uLc (uZ (uCons (uVar 0) (uCons (uVar 1) uNil))) [2, 3] (uGTup 2 (uGCons (uName 2) (uGCons (uName 3) uGNil))) uYes (uCall (sp_law_same KF n) [] (uCons (uVar 2) (uCons (uVar 3) uNil)))) uNil)))) (endsOf S K X) [some x, some y, none, none] S := by
  walk_at "i"
  refine x_lenL ex ?_
  walk_at "i"
  refine x_lenL ey ?_
  walk_at "i"
  refine x_iteT2 (by simp [hl]) ?_
  walk_at "i"
  refine ⟨xs, ys, dx, dy, ?_⟩
  refine lc_map (fun _ => .bl true) ⟨dx, dy⟩ (by unfold pairs; rw [List.length_zipWith]; omega) (fun j d Kt Kf hj hk => ?_) ?_
  · unfold pairs at hj
    rw [List.getElem?_zipWith] at hj
    obtain ⟨a, b, ea, eb, rfl⟩ : ∃ a b, xs[j]? = some a ∧ ys[j]? = some b ∧ d = .tup [a, b] := by
      cases ea : xs[j]? with
      | none => simp [ea] at hj
      | some a =>
        cases eb : ys[j]? with
        | none => simp [ea, eb] at hj
        | some b => simp [ea, eb] at hj; exact ⟨a, b, rfl, rfl, hj.symm⟩
    dsimp only [wipeD, List.set_cons_succ, List.set_cons_zero]
    walk_at "i"
    exact sp_same_of (h j a b ea eb) hk
  · walk_at "i"
    refine x_bools (bs := (pairs xs ys).map fun _ => true) (by simp [lstD, view, List.map_map, Function.comp_def]) ?_
    refine x_rtE ?_
    have e : ((pairs xs ys).map fun _ => true).all id = true := by simp
    show ExitTo S K (.bl (((pairs xs ys).map fun _ => true).all id)) S
    rw [e]
    exact exit_here (by simp only [below]) k
theorem r_law_same {KF : PySem.W.Frag} {n : Nat} {ds S K X} (h : sp_law_same KF (n + 1) ds S K X) (hb : belows S.length ds) (hS : belows S.length S) : u_law_same KF (sp_law_same KF n) (endsOf S K X) (startD ["_law_found", "_law_due", "_law_a", "_law_b"] ds) S := by
  obtain ⟨x, y, rfl, h, k⟩ := h
  show u_law_same KF (sp_law_same KF n) (endsOf S K X) [some x, some y, none, none] S
  have fin : (endsOf S K X).rt (.bl true) S := exit_here (by simp only [below]) k
  unfold u_law_same
  rcases h with ⟨rfl, rfl⟩ | ⟨b, rfl, rfl⟩ | ⟨b, rfl, rfl⟩ | ⟨b, rfl, rfl⟩ | ⟨xs, ys, rfl, rfl, hl, hs, h⟩ | ⟨xs, ys, ex, ey, hl, hs, h⟩
  · walk_at "i"
    exact fin
  · walk_at "i"
    refine x_rtE ?_
    rw [show decide (b = b) = true from decide_eq_true rfl]
    exact fin
  · walk_at "i"
    refine x_rtE ?_
    rw [show decide (b = b) = true from decide_eq_true rfl]
    exact fin
  · walk_at "i"
    refine x_rtE ?_
    rw [show decide (b = b) = true from decide_eq_true rfl]
    exact fin
  · walk_at "i"
    exact same_lists (x := .tup xs) (y := .tup ys) rfl rfl rfl rfl hl hs h (fun b => by simp only [below]) k
  · walk_at "i"
    refine x_isi2 (lstD_ty ey) (by decide) (by decide) ?_
    walk_at "i"
    refine x_isi (lstD_ty ex) (by decide) ?_
    walk_at "i"
    refine x_isi (lstD_ty ey) (by decide) ?_
    walk_at "i"
    refine x_isi (lstD_ty ex) (by decide) ?_
    walk_at "i"
    refine x_isi (lstD_ty ey) (by decide) ?_
    walk_at "i"
    exact same_lists (lstD_seq ex) (lstD_seq ey) (lstD_draw ex) (lstD_draw ey) hl hs h (fun b => by simp only [below]) k
end DL
/-! SL: promises of the small things: numbers, primes, letters. -/
namespace DL
open PySem L2
/-- ascending, each once -/
def ascL : List Nat → Bool
  | a :: b :: r => decide (a < b) && ascL (b :: r)
  | _ => true
abbrev abc : Str := "abcdefghijklmnopqrstuvwxyz"
def sp_ascends (K : PySem.W.Frag) : Spec := fun ds S Kt _ => (∃ z : Str, ds = [.str z] ∧ z.length ≤ 1000000 ∧ Kt (.bl (ascL z.cps.toList)) S) ∨ ∃ ns : List Nat, ds = [.tup (ns.map fun (n : Nat) => Dat.int (n : Int))] ∧ ns.length ≤ 1000000 ∧ Kt (.bl (ascL ns)) S
def isAlpha (z : Str) : Bool := decide (1 ≤ z.cps.toList.length) && decide (z.cps.toList.length ≤ 4) && (z.cps.toList.all (fun c => decide (c ∈ abc.cps.toList)) && ascL z.cps.toList)
def notStr (S : Store) (d : Dat) : Prop := ∃ t, tyS S d = some t ∧ t ≠ "str" ∧ t ∈ tyNames
def sp_is_alphabet (K : PySem.W.Frag) : Spec := fun ds S Kt _ => (∃ z : Str, ds = [.str z] ∧ z.length ≤ 1000000 ∧ Kt (.bl (isAlpha z)) S) ∨ ∃ d, ds = [d] ∧ notStr S d ∧ Kt (.bl false) S
def isWord (a z : Str) : Bool := z.cps.toList.all fun c => decide (c ∈ a.cps.toList)
def sp_is_word (K : PySem.W.Frag) : Spec := fun ds S Kt _ => ∃ a : Str, (∃ z : Str, ds = [.str a, .str z] ∧ z.length ≤ 1000000 ∧ Kt (.bl (isWord a z)) S) ∨ ∃ d, ds = [.str a, d] ∧ notStr S d ∧ Kt (.bl false) S
/-- no number: of another kind, or a truth value -/
def notInt (S : Store) (d : Dat) : Prop := ∃ t, tyS S d = some t ∧ t ≠ "int" ∧ t ∈ tyNames
def sp_is_number (K : PySem.W.Frag) : Spec := fun ds S Kt _ => (∃ v l h : Int, ds = [.int v, .int l, .int h] ∧ Kt (.bl (decide (l ≤ v) && decide (v ≤ h))) S) ∨ (∃ v l : Int, ds = [.int v, .int l, .non] ∧ Kt (.bl (decide (l ≤ v))) S) ∨ ∃ d, ∃ l : Int, ∃ m, ds = [d, .int l, m] ∧ notInt S d ∧ Kt (.bl false) S
/-- no number parts p -/
def isPrime (p : Int) : Prop := 2 ≤ p ∧ ∀ d : Int, 2 ≤ d → d * d ≤ p → p % d ≠ 0
open Classical in
noncomputable def primeB (p : Int) : Bool := decide (isPrime p)
def sp_is_prime (K : PySem.W.Frag) : Spec := fun ds S Kt _ => (∃ v m : Int, ds = [.int v, .int m] ∧ m < 1000000 ∧ Kt (.bl (decide (v ≤ m) && primeB v)) S) ∨ ∃ d, ∃ m : Int, ds = [d, .int m] ∧ notInt S d ∧ Kt (.bl false) S
theorem len_ascends {K : PySem.W.Frag} {ds S Kt X} (h : sp_ascends K ds S Kt X) : ds.length = 1 := by rcases h with ⟨_, rfl, _⟩ | ⟨_, rfl, _⟩ <;> rfl
theorem len_is_alphabet {K : PySem.W.Frag} {ds S Kt X} (h : sp_is_alphabet K ds S Kt X) : ds.length = 1 := by rcases h with ⟨_, rfl, _⟩ | ⟨_, rfl, _⟩ <;> rfl
theorem len_is_word {K : PySem.W.Frag} {ds S Kt X} (h : sp_is_word K ds S Kt X) : ds.length = 2 := by obtain ⟨_, ⟨_, rfl, _⟩ | ⟨_, rfl, _⟩⟩ := h <;> rfl
theorem len_is_number {K : PySem.W.Frag} {ds S Kt X} (h : sp_is_number K ds S Kt X) : ds.length = 3 := by rcases h with ⟨_, _, _, rfl, _⟩ | ⟨_, _, rfl, _⟩ | ⟨_, _, _, rfl, _⟩ <;> rfl
theorem len_is_prime {K : PySem.W.Frag} {ds S Kt X} (h : sp_is_prime K ds S Kt X) : ds.length = 2 := by rcases h with ⟨_, _, rfl, _⟩ | ⟨_, _, rfl, _⟩ <;> rfl
def u_is_number (K : PySem.W.Frag) : US :=
  (uSeq (uIfS (uOr (uNot (uTru (uCB (gIsi K) (uCons (uVar 0) (uCons (uC (.raw (.ty "int"))) uNil))))) (uOr (uTru (uCB (gIsi K) (uCons (uVar 0) (uCons (uC (.raw (.ty "bool"))) uNil)))) (uTest (uOp gLt (uVar 0) (uVar 1))))) (uRet (uC (.bl false))) uNext)
    (uRet (uOrV (uOp (gIs id) (uVar 2) (uC .non)) (uOp gLe (uVar 0) (uVar 2)))))
def u_is_prime (K : PySem.W.Frag) : US :=
  (uSeq (uIfS (uNot (uTru (uCall (sp_is_number K) [] (uCons (uVar 0) (uCons (uC (.int 2)) (uCons (uVar 1) uNil)))))) (uRet (uC (.bl false))) uNext)
    (uSeq (uSet 2 (uC (.int 2)))
    (uSeq (uWhile (uTest (uOp gLe (uOp gMul (uVar 2) (uVar 2)) (uVar 0))) (uSeq (uIfS (uTest (uOp gEq (uOp gMod (uVar 0) (uVar 2)) (uC (.int 0)))) (uRet (uC (.bl false))) uNext)
    (uSet 2 (uOp gAdd (uVar 2) (uC (.int 1))))))
    (uRet (uC (.bl true))))))
def u_ascends (K : PySem.W.Frag) : US :=
  (uRet (uCB (gBools fun bs => bs.all id) (uCons (uLc (uZ (uCons (uVar 0) (uCons (uSl (uVar 0) (uPart (uC (.int 1))) uNo) uNil))) [1, 2] (uGTup 2 (uGCons (uName 1) (uGCons (uName 2) uGNil))) uYes (uOp gLt (uVar 1) (uVar 2))) uNil)))
def u_is_alphabet (K : PySem.W.Frag) : US :=
  (uSeq (uIfS (uOr (uNot (uTru (uCB (gIsi K) (uCons (uVar 0) (uCons (uC (.raw (.ty "str"))) uNil))))) (uNot (uTest (uChain gLe gLe (uC (.int 1)) (uCB gLen (uCons (uVar 0) uNil)) (uC (.int 4)))))) (uRet (uC (.bl false))) uNext)
    (uRet (uAndV (uCB (gBools fun bs => bs.all id) (uCons (uLc (uSeqI (uVar 0)) [1] (uName 1) uYes (uOp (gIn id) (uVar 1) (uC (.str "abcdefghijklmnopqrstuvwxyz")))) uNil)) (uCall (sp_ascends K) [] (uCons (uVar 0) uNil)))))
def u_is_word (K : PySem.W.Frag) : US :=
  (uRet (uAndV (uCB (gIsi K) (uCons (uVar 1) (uCons (uC (.raw (.ty "str"))) uNil))) (uCB (gBools fun bs => bs.all id) (uCons (uLc (uSeqI (uVar 1)) [2] (uName 2) uYes (uOp (gIn id) (uVar 2) (uVar 0))) uNil))))
end DL
namespace DL
open PySem L2
local macro_rules | `(tactic| walk_at "e1") => `(tactic| with_reducible first
  | refine x_var rfl ?_ | refine x_c ?_ | refine x_op ?_ | refine x_un ?_ | refine x_nil ?_ | refine x_cons ?_ | refine x_tup ?_ | refine x_lst ?_ | refine x_lstC ?_ | refine x_cb ?_ | refine x_call ?_ | refine x_if ?_
  | refine x_test ?_ | refine x_and ?_ | refine x_or ?_ | refine x_not ?_ | refine x_tru ?_ | refine x_andV ?_ | refine x_orV ?_ | refine x_notV ?_ | refine x_yes ?_ | refine x_chain ?_
  | refine x_bm ?_ | refine x_bm0 ?_ | refine x_part ?_ | refine x_no ?_ | refine x_sl ?_ | refine x_seqI ?_ | refine x_r1 ?_ | refine x_r2 ?_ | refine x_z ?_ | refine x_lc ?_ | refine x_lcC ?_ | refine x_lcW ?_ | refine x_fld ?_ | refine x_meth ?_ | refine x_prop ?_ | refine x_make ?_ | refine x_en ?_)
local macro_rules | `(tactic| walk_at "s1") => `(tactic| with_reducible first
  | refine x_seq ?_ | refine x_next ?_ | refine x_break ?_ | refine x_cont ?_ | refine x_drop ?_ | refine x_ret ?_ | refine x_retN ?_ | refine x_ifS ?_ | refine x_set ?_ | refine x_asg ?_ | refine x_par ?_ | refine x_gsub ?_ | refine x_gnil ?_ | refine x_gcons ?_ | refine x_setF ?_ | refine x_for ?_)
local macro_rules | `(tactic| walk_at "g1") => `(tactic| first
  | with_reducible refine x_iteT ?_ | with_reducible refine x_iteF ?_ | with_reducible refine x_tN ?_ | with_reducible refine x_tB ?_ | with_reducible refine x_tI ?_ | with_reducible refine x_tT ?_ | with_reducible refine x_tL ?_
  | with_reducible refine x_addI ?_ | with_reducible refine x_sub ?_ | with_reducible refine x_ltI ?_ | with_reducible refine x_leI ?_ | with_reducible refine x_gtI ?_ | with_reducible refine x_geI ?_ | with_reducible refine x_ltS ?_ | with_reducible refine x_leS ?_ | with_reducible refine x_gtS ?_ | with_reducible refine x_geS ?_
  | with_reducible refine x_eqI ?_ | with_reducible refine x_eqS ?_ | with_reducible refine x_eqB ?_ | with_reducible refine x_neI ?_ | with_reducible refine x_neS ?_ | with_reducible refine x_neB ?_ | with_reducible refine x_neg ?_
  | with_reducible refine x_inS ?_ | with_reducible refine x_notinS ?_ | with_reducible refine x_intI ?_ | with_reducible refine x_intB ?_ | with_reducible refine x_abs ?_ | with_reducible refine x_slL ?_ | with_reducible refine x_slT ?_ | with_reducible refine x_min2 ?_ | with_reducible refine x_max2 ?_
  | ((with_reducible refine x_is ?_ ?_); · rfl) | ((with_reducible refine x_isnot ?_ ?_); · rfl) | ((with_reducible refine x_isiD ?_ ?_ ?_); (next => rfl); (next => decide)) | ((with_reducible refine x_isiD2 ?_ ?_ ?_ ?_); (next => rfl); (next => decide); (next => decide)) | ((with_reducible refine x_name ?_ ?_); · exact of_decide_eq_true rfl) | ((with_reducible refine x_gtup ?_ ?_); · rfl))
local macro_rules | `(tactic| walk_at "d") => `(tactic| repeat (first | walk_at "e1" | walk_at "s1" | walk_at "g1" | ((with_reducible refine x_putL ?_ ?_); · rfl) | ((with_reducible refine x_szL ?_ ?_); · rfl) | dsimp only [List.set_cons_succ, List.set_cons_zero]))
local macro_rules | `(tactic| walk_at "i") => `(tactic| repeat (first | walk_at "e1" | walk_at "s1" | walk_at "g1" | ((with_reducible refine x_putL ?_ ?_); · rfl) | ((with_reducible refine x_szL ?_ ?_); · rfl) | ((with_reducible refine x_iteT2 ?_ ?_); · rfl) | ((with_reducible refine x_iteF2 ?_ ?_); · rfl) | dsimp only [List.set_cons_succ, List.set_cons_zero]))
theorem cps_len (z : Str) : z.cps.toList.length = z.length := by first | rfl | simp [Str.length]
theorem ascL_zip : ∀ l : List Nat, (List.zipWith (fun a b => decide (a < b)) l (l.drop 1)).all id = ascL l
  | [] => rfl
  | [a] => rfl
  | a :: b :: r => by
    have := ascL_zip (b :: r)
    simp only [List.drop_succ_cons, List.drop_zero, List.zipWith_cons_cons, List.all_cons, id_eq, ascL] at this ⊢
    rw [this]
theorem ltS_sgn (a b : Nat) : ltS (sgn a) (sgn b) = decide (a < b) := by
  unfold ltS sgn
  simp [List.cons_lt_cons_iff]
theorem asc_zip (l : List Nat) : (((l.zip (l.drop 1)).map fun p => decide (p.1 < p.2)).all id) = ascL l := by
  rw [← ascL_zip l]
  congr 1
  generalize l.drop 1 = m
  induction l generalizing m with
  | nil => simp
  | cons a l ih => cases m with
    | nil => simp
    | cons b m => simp [ih]
theorem cutS_from (z : Str) (i : Nat) : (cutS z (some (i : Int)) none).cps.toList = z.cps.toList.drop i := by
  have := cut_from z.cps.toList i
  rw [cps_len] at this
  exact this
theorem cutS_to (z : Str) (i : Nat) : (cutS z none (some (i : Int))).cps.toList = z.cps.toList.take i := by
  have := cut_to z.cps.toList i
  rw [cps_len] at this
  exact this
theorem x_allB {α : Type} {xs : List α} {p : α → Bool} {S : Store} {K : KE} (k : K (.bl (xs.all p)) S) : gBools (fun bs => bs.all id) [.lst (xs.map fun a => .bl (p a))] S K :=
  x_bools (bs := xs.map p) (by simp [lstD, view]) (by rw [List.all_map]; exact k)
theorem x_anyB {α : Type} {xs : List α} {p : α → Bool} {S : Store} {K : KE} (k : K (.bl (xs.any p)) S) : gBools (fun bs => bs.any id) [.lst (xs.map fun a => .bl (p a))] S K :=
  x_bools (bs := xs.map p) (by simp [lstD, view]) (by rw [List.any_map]; exact k)
theorem r_ascends {KF : PySem.W.Frag} {ds S K X} (h : sp_ascends KF ds S K X) (hb : belows S.length ds) (hS : belows S.length S) : u_ascends KF (endsOf S K X) (startD ["letters", "one", "other"] ds) S := by
  have szl : sizeLine = 16777216 := rfl
  rcases h with ⟨z, rfl, hz, k⟩ | ⟨ns, rfl, hz, k⟩
  · show u_ascends KF (endsOf S K X) [some (.str z), none, none] S
    unfold u_ascends
    walk_at "i"
    refine x_slS (by omega) ?_
    walk_at "i"
    refine ⟨_, _, rfl, rfl, ?_⟩
    rw [show (1 : Int) = ((1 : Nat) : Int) from rfl, cutS_from, pairs_map]
    refine' lc_M _ _ ⟨rfl, by show some _ = some _; rw [cutS_from]⟩ (by rw [List.length_zip, List.length_drop, cps_len]; omega) ?hs ?k
    case hs =>
      intro a _ Kt Kf hk
      dsimp only [wipeD, List.set_cons_succ, List.set_cons_zero]
      walk_at "i"
      rw [ltS_sgn]
      exact hk
    case k =>
      walk_at "i"
      refine x_bools (bs := (z.cps.toList.zip (z.cps.toList.drop 1)).map fun p => decide (p.1 < p.2)) (by simp [lstD, view]) ?_
      refine x_rtE ?_
      rw [asc_zip]
      exact exit_here (by simp only [below]) k
  · show u_ascends KF (endsOf S K X) [some (.tup (ns.map fun (n : Nat) => Dat.int (n : Int))), none, none] S
    unfold u_ascends
    walk_at "i"
    refine ⟨_, _, rfl, rfl, ?_⟩
    rw [cutD_map, show (1 : Int) = ((1 : Nat) : Int) from rfl, cut_from, pairs_map]
    refine' lc_M _ _ ⟨rfl, rfl⟩ (by rw [List.length_zip, List.length_drop]; omega) ?hs ?k
    case hs =>
      intro a _ Kt Kf hk
      dsimp only [wipeD, List.set_cons_succ, List.set_cons_zero]
      walk_at "i"
      have e : decide ((a.1 : Int) < (a.2 : Int)) = decide (a.1 < a.2) := decide_eq_decide.mpr (by omega)
      rw [e]
      exact hk
    case k =>
      walk_at "i"
      refine x_bools (bs := (ns.zip (ns.drop 1)).map fun p => decide (p.1 < p.2)) (by simp [lstD, view]) ?_
      refine x_rtE ?_
      rw [asc_zip]
      exact exit_here (by simp only [below]) k
/-- all signs of z lie in a -/
theorem all_signs {z a : Str} {dl : Env'} {S : Store} {K : KE} {X : KX} {i j : Nat} {ua : UE} (hz : z.length ≤ 1000000) (hi : dl[i]? = some (some (.str z))) (hj : j < dl.length) (ha : ∀ (c : Dat) (Kt : KE), Kt (.str a) S → ua ((dl.set j none).set j (some c)) S Kt XF0)
    (k : K (.bl (z.cps.toList.all fun c => decide (c ∈ a.cps.toList))) S) :
    uCB (gBools fun bs => bs.all id) (uCons (uLc (uSeqI (uVar i)) [j] (uName j) uYes (uOp (gIn id) (uVar j) ua)) uNil) dl S K X := by
  have szl : sizeLine = 16777216 := rfl
  refine x_cb (x_cons (x_lc (x_lcW (x_seqI (x_var hi ⟨_, rfl, ?_⟩)))))
  refine' lc_M z.cps.toList _ rfl (by rw [cps_len]; omega) ?hs ?k
  case hs =>
    intro c _ Kt Kf hk
    refine x_name (by simpa [wipeD] using hj) ?_
    refine x_yes (x_iteT (x_op ?_))
    refine x_var (d := .str (sgn c)) (by rw [List.getElem?_set_self (by simpa [wipeD] using hj)]) ?_
    refine ha _ _ ?_
    exact x_inS hk
  case k => exact x_nil (x_allB k)
theorem notStr_isB {t : String} (h : t ≠ "str") : isB t "str" = false := by simp [isB, h]
theorem r_is_word {KF : PySem.W.Frag} {ds S K X} (h : sp_is_word KF ds S K X) (hb : belows S.length ds) (hS : belows S.length S) : u_is_word KF (endsOf S K X) (startD ["alphabet", "value", "sign"] ds) S := by
  obtain ⟨a, ⟨z, rfl, hz, k⟩ | ⟨d, rfl, ⟨t, ht, htn, hm⟩, k⟩⟩ := h
  · show u_is_word KF (endsOf S K X) [some (.str a), some (.str z), none] S
    unfold u_is_word
    refine x_ret (x_andV (x_cb (x_cons (x_var rfl (x_cons (x_c (x_nil ?_)))))))
    refine x_isi (t := "str") rfl (by decide) ?_
    refine x_tB (x_iteT2 rfl ?_)
    refine all_signs (a := a) hz rfl (of_decide_eq_true rfl) (fun c Kt h => x_var rfl h) ?_
    exact exit_here (by simp only [below]) k
  · show u_is_word KF (endsOf S K X) [some (.str a), some d, none] S
    unfold u_is_word
    walk_at "i"
    refine x_isi ht (by decide) ?_
    rw [notStr_isB htn]
    walk_at "i"
    exact exit_here (by simp only [below]) k
theorem r_is_alphabet {KF : PySem.W.Frag} {ds S K X} (h : sp_is_alphabet KF ds S K X) (hb : belows S.length ds) (hS : belows S.length S) : u_is_alphabet KF (endsOf S K X) (startD ["value", "sign"] ds) S := by
  rcases h with ⟨z, rfl, hz, k⟩ | ⟨d, rfl, ⟨t, ht, htn, hm⟩, k⟩
  · show u_is_alphabet KF (endsOf S K X) [some (.str z), none] S
    have hz2 := cps_len z
    have hsz : z.length ≤ sizeLine := Nat.le_trans hz (by decide)
    have fin : ∀ b : Bool, b = isAlpha z → (endsOf S K X).rt (.bl b) S := fun b e => by subst e; exact exit_here (by simp only [below]) k
    unfold u_is_alphabet
    walk_at "i"
    refine x_lenS hsz ?_
    walk_at "i"
    refine x_ite (fun e1 => ?_) (fun e1 => ?_)
    · have h1 := of_decide_eq_true e1
      refine x_ite (fun e2 => ?_) (fun e2 => ?_)
      · have h2 : ¬ ((z.length : Int) ≤ 4) := by simpa using e2
        walk_at "i"
        refine fin false ?_
        have : ¬ (z.cps.toList.length ≤ 4) := by omega
        simp only [isAlpha, this, decide_false, Bool.and_false, Bool.false_and]
      · have h2 : ((z.length : Int) ≤ 4) := by simpa using e2
        refine x_next ?_
        dsimp only
        refine x_ret (x_andV ?_)
        refine all_signs (a := abc) hz rfl (of_decide_eq_true rfl) (fun c Kt h => x_c h) ?_
        refine x_tB ?_
        have hA : isAlpha z = ((z.cps.toList.all fun c => decide (c ∈ abc.cps.toList)) && ascL z.cps.toList) := by
          have h3 : 1 ≤ z.cps.toList.length := by omega
          have h4 : z.cps.toList.length ≤ 4 := by omega
          simp only [isAlpha, h3, h4, decide_true, Bool.true_and]
        refine x_ite (fun e3 => ?_) (fun e3 => ?_)
        · walk_at "i"
          refine .inl ⟨z, rfl, hz, fin _ ?_⟩
          rw [hA, e3, Bool.true_and]
        · refine fin _ ?_
          rw [hA, e3, Bool.false_and]
    · walk_at "i"
      refine fin false ?_
      have h1 : ¬ ((1 : Int) ≤ (z.length : Int)) := of_decide_eq_false e1
      have : ¬ (1 ≤ z.cps.toList.length) := by omega
      simp only [isAlpha, this, decide_false, Bool.and_false, Bool.false_and]
  · show u_is_alphabet KF (endsOf S K X) [some d, none] S
    unfold u_is_alphabet
    walk_at "i"
    refine x_isi ht (by decide) ?_
    rw [notStr_isB htn]
    walk_at "i"
    exact exit_here (by simp only [below]) k
theorem r_is_number {KF : PySem.W.Frag} {ds S K X} (h : sp_is_number KF ds S K X) (hb : belows S.length ds) (hS : belows S.length S) : u_is_number KF (endsOf S K X) (startD ["value", "least", "most"] ds) S := by
  have fin : ∀ b c : Bool, b = c → K (.bl c) S → (endsOf S K X).rt (.bl b) S := fun b c e k => by subst e; exact exit_here (by simp only [below]) k
  rcases h with ⟨v, l, h, rfl, k⟩ | ⟨v, l, rfl, k⟩ | ⟨d, l, m, rfl, ⟨t, ht, hn, hm⟩, k⟩
  · show u_is_number KF (endsOf S K X) [some (.int v), some (.int l), some (.int h)] S
    unfold u_is_number
    walk_at "i"
    refine x_ite (fun e => ?_) (fun e => ?_)
    · walk_at "i"
      have := of_decide_eq_true e
      exact fin _ _ (by rw [decide_eq_false (show ¬ l ≤ v by omega)]; rfl) k
    · walk_at "i"
      have := of_decide_eq_false e
      exact fin _ _ (by rw [decide_eq_true (show l ≤ v by omega)]; rfl) k
  · show u_is_number KF (endsOf S K X) [some (.int v), some (.int l), some .non] S
    unfold u_is_number
    walk_at "i"
    refine x_ite (fun e => ?_) (fun e => ?_)
    · walk_at "i"
      have := of_decide_eq_true e
      exact fin _ _ (by rw [decide_eq_false (show ¬ l ≤ v by omega)]) k
    · walk_at "i"
      have := of_decide_eq_false e
      exact fin _ _ (by rw [decide_eq_true (show l ≤ v by omega)]; rfl) k
  · show u_is_number KF (endsOf S K X) [some d, some (.int l), some m] S
    unfold u_is_number
    walk_at "i"
    refine x_isi ht (by decide) ?_
    cases e : isB t "int" with
    | false =>
      walk_at "i"
      exact fin _ _ rfl k
    | true =>
      have e2 : t = "bool" := by
        simp only [isB, Bool.or_eq_true, Bool.and_eq_true, beq_iff_eq] at e
        rcases e with e | e
        · exact absurd e hn
        · exact e.1
      subst e2
      walk_at "i"
      refine x_isi ht (by decide) ?_
      walk_at "i"
      exact fin _ _ rfl k
theorem r_is_prime {KF : PySem.W.Frag} {ds S K X} (h : sp_is_prime KF ds S K X) (hb : belows S.length ds) (hS : belows S.length S) : u_is_prime KF (endsOf S K X) (startD ["value", "most", "divisor"] ds) S := by
  have fin : ∀ b c : Bool, b = c → K (.bl c) S → (endsOf S K X).rt (.bl b) S := fun b c e k => by subst e; exact exit_here (by simp only [below]) k
  rcases h with ⟨v, m, rfl, hm, k⟩ | ⟨d, m, rfl, hn, k⟩
  · show u_is_prime KF (endsOf S K X) [some (.int v), some (.int m), none] S
    unfold u_is_prime
    walk_at "i"
    refine .inl ⟨v, 2, m, rfl, ?_⟩
    walk_at "i"
    refine x_ite (fun e => ?_) (fun e => ?_)
    · walk_at "i"
      refine fin _ _ ?_ k
      simp only [Bool.not_eq_true', Bool.and_eq_false_iff, decide_eq_false_iff_not] at e
      rcases e with e | e
      · have : primeB v = false := by unfold primeB; simp only [decide_eq_false_iff_not]; exact fun z => e z.1
        rw [this, Bool.and_false]
      · rw [decide_eq_false e, Bool.false_and]
    · simp only [Bool.not_eq_false', Bool.and_eq_true, decide_eq_true_eq] at e
      walk_at "i"
      refine ⟨fun n dl1 S1 => S1 = S ∧ ∃ q : Int, dl1 = [some (.int v), some (.int m), some (.int q)] ∧ 2 ≤ q ∧ q ≤ 1001 ∧ n = (v + 2 - q).toNat ∧ ∀ d : Int, 2 ≤ d → d < q → d * d ≤ v → v % d ≠ 0, ⟨_, rfl, 2, rfl, by omega, by omega, rfl, fun d h1 h2 => by omega⟩, ?_⟩
      rintro n dl1 S1 ⟨rfl, q, rfl, hq, hq2, rfl, hd⟩
      walk_at "i"
      refine x_mul (.inl ⟨by omega, by omega⟩) ?_
      walk_at "i"
      refine x_ite (fun e2 => ?_) (fun e2 => ?_)
      · have e2 := of_decide_eq_true e2
        walk_at "i"
        refine x_mod (by omega) ?_
        walk_at "i"
        refine x_ite (fun e3 => ?_) (fun e3 => ?_)
        · have e3 := of_decide_eq_true e3
          walk_at "i"
          refine fin _ _ ?_ k
          have : primeB v = false := by unfold primeB; simp only [decide_eq_false_iff_not]; exact fun z => z.2 q hq e2 e3
          rw [this, Bool.and_false]
        · have e3 := of_decide_eq_false e3
          walk_at "i"
          have hqv : q < v := by
            have : q * 2 ≤ q * q := Int.mul_le_mul_of_nonneg_left hq (by omega)
            omega
          have hq3 : q ≤ 1000 := by
            by_cases z : q ≤ 1000
            · exact z
            · have : 1001 * 1001 ≤ q * q := Int.mul_le_mul (by omega) (by omega) (by omega) (by omega)
              omega
          refine .inl ⟨(v + 2 - (q + 1)).toNat, by omega, rfl, q + 1, rfl, by omega, by omega, rfl, fun d h1 h2 h3 => ?_⟩
          by_cases z : d = q
          · subst z; exact e3
          · exact hd d h1 (by omega) h3
      · have e2 := of_decide_eq_false e2
        walk_at "i"
        refine fin _ _ ?_ k
        have : primeB v = true := by
          unfold primeB
          simp only [decide_eq_true_eq]
          refine ⟨e.1, fun d h1 h2 => ?_⟩
          by_cases z : d < q
          · exact hd d h1 z h2
          · have : q * q ≤ d * d := Int.mul_le_mul (by omega) (by omega) (by omega) (by omega)
            omega
        rw [this, decide_eq_true e.2]
        rfl
  · show u_is_prime KF (endsOf S K X) [some d, some (.int m), none] S
    unfold u_is_prime
    walk_at "i"
    refine .inr (.inr ⟨d, 2, .int m, rfl, hn, ?_⟩)
    walk_at "i"
    exact fin _ _ rfl k
end DL
namespace DL
open PySem L2
/-! RD: draws, and the store around a bag. -/
/-- a drawn item of a list that stands in the term -/
theorem of_lst {KF : PySem.W.Frag} {b : Nat} {xs : List Dat} {bag : Dat} {S : Store} {Kt : KE} {X : KX} (h0 : 0 < xs.length) (hn : xs.length < 1073741824) (hbag : S[b]? = some bag) (hB : IsBag bag)
    (k : ∀ (i : Nat) x bag', xs[i]? = some x → IsBag bag' → Kt x (S.set b bag')) : sp_law_of KF ([.cell b, .lst xs] ++ []) S Kt X :=
  ⟨b, _, xs, bag, rfl, .inr ⟨(by intro z h; cases h), rfl⟩, fun _ _ => .inr ⟨(by intro z h; cases h), rfl⟩, h0, hn, hbag, hB, k⟩
theorem of_str {KF : PySem.W.Frag} {b : Nat} {z : Str} {bag : Dat} {S : Store} {Kt : KE} {X : KX} (h0 : 0 < z.cps.toList.length) (hn : z.length ≤ sizeLine) (hbag : S[b]? = some bag) (hB : IsBag bag)
    (k : ∀ c bag', c ∈ z.cps.toList → IsBag bag' → Kt (.str (sgn c)) (S.set b bag')) : sp_law_of KF ([.cell b, .str z] ++ []) S Kt X :=
  ⟨b, _, _, bag, rfl, .inl ⟨z, rfl, hn, rfl⟩, fun _ _ => .inl ⟨z, rfl, hn, rfl⟩, by rw [List.length_map]; exact h0, by rw [List.length_map, cps_len]; have : sizeLine = 16777216 := rfl; omega, hbag, hB, fun i x bag' hx hB' => by
    rw [List.getElem?_map] at hx
    obtain ⟨c, hc, rfl⟩ := Option.map_eq_some_iff.mp hx
    exact k c bag' (List.mem_of_getElem? hc) hB'⟩
theorem pull_of {KF : PySem.W.Frag} {b : Nat} {n : Int} {bag : Dat} {S : Store} {Kt : KE} {X : KX} (h0 : 0 < n) (hn : n < 1073741824) (hbag : S[b]? = some bag) (hB : IsBag bag)
    (k : ∀ (k : Nat) bag', (k : Int) < n → IsBag bag' → Kt (.int k) (S.set b bag')) : sp_law_pull KF ([.cell b, .int n] ++ []) S Kt X := ⟨b, n, bag, rfl, h0, hn, hbag, hB, k⟩
theorem join_cps (cs : List Nat) : (Txt.join "" (cs.map sgn)).cps.toList = cs := by
  have h1 := TL.tl_join (Str.ofString "") (cs.map sgn)
  rw [← TL.join_eq] at h1
  have h2 : ∀ z : Str, TL.tl z = z.cps.toList := fun _ => rfl
  rw [h2] at h1
  refine h1.trans ?_
  rw [List.map_map]
  have h3 : TL.tl (Str.ofString "") = [] := rfl
  rw [h3]
  clear h1 h2 h3
  induction cs with
  | nil => rfl
  | cons c r ih =>
    cases r with
    | nil => rfl
    | cons d q =>
      show [c] ++ ([] ++ TL.joinL [] ((d :: q).map (TL.tl ∘ sgn))) = _
      rw [ih]
      rfl
section
variable {S : Store} {b : Nat} {x y : Dat}
theorem st_old (hb : b < S.length) : (S.set b x ++ [y])[b]? = some x := by
  rw [List.getElem?_append_left (by rw [List.length_set]; exact hb), List.getElem?_set_self hb]
theorem st_new : (S.set b x ++ [y])[S.length]? = some y := by
  rw [List.getElem?_append_right (by simp)]
  simp
theorem st_setOld {z : Dat} (hb : b < S.length) : (S.set b x ++ [y]).set b z = S.set b z ++ [y] := by
  rw [List.set_append_left _ _ (by rw [List.length_set]; exact hb), List.set_set]
theorem st_setNew {z : Dat} : (S.set b x ++ [y]).set S.length z = S.set b x ++ [z] := by
  rw [List.set_append_right _ _ (by simp)]
  simp
end
theorem join_size (cs : List Nat) : ((cs.map sgn).map (·.length)).sum = cs.length := by
  induction cs with
  | nil => rfl
  | cons c r ih => simp only [List.map_cons, List.sum_cons, ih, List.length_cons]; show 1 + r.length = _; omega
theorem join_len (cs : List Nat) : (Txt.join "" (cs.map sgn)).length = cs.length := by rw [← cps_len, join_cps]
/-- the chosen ones of a list keep their order -/
theorem asc_sub : ∀ {l m : List Nat}, l.Sublist m → ascL m = true → ascL l = true := by
  have key : ∀ (m : List Nat), ascL m = true → m.Pairwise (· < ·) := fun m => by
    induction m with
    | nil => intro _; exact .nil
    | cons a r ih =>
      cases r with
      | nil => intro _; exact List.pairwise_singleton _ _
      | cons b q =>
        intro h
        simp only [ascL, Bool.and_eq_true, decide_eq_true_eq] at h
        have ih := ih h.2
        refine List.pairwise_cons.mpr ⟨fun x hx => ?_, ih⟩
        rcases List.mem_cons.mp hx with e | e
        · rw [e]; exact h.1
        · exact Nat.lt_trans h.1 ((List.pairwise_cons.mp ih).1 x e)
  have back : ∀ (m : List Nat), m.Pairwise (· < ·) → ascL m = true := fun m => by
    induction m with
    | nil => intro _; rfl
    | cons a r ih =>
      cases r with
      | nil => intro _; rfl
      | cons b q =>
        intro h
        have h2 := List.pairwise_cons.mp h
        simp only [ascL, Bool.and_eq_true, decide_eq_true_eq]
        exact ⟨h2.1 b List.mem_cons_self, ih h2.2⟩
  intro l m hs hm
  exact back l ((key m hm).sublist hs)
theorem asc_pair {m : List Nat} : ascL m = true ↔ m.Pairwise (· < ·) := by
  constructor
  · induction m with
    | nil => intro _; exact .nil
    | cons a r ih =>
      cases r with
      | nil => intro _; exact List.pairwise_singleton _ _
      | cons b q =>
        intro h
        simp only [ascL, Bool.and_eq_true, decide_eq_true_eq] at h
        have ih := ih h.2
        refine List.pairwise_cons.mpr ⟨fun x hx => ?_, ih⟩
        rcases List.mem_cons.mp hx with e | e
        · rw [e]; exact h.1
        · exact Nat.lt_trans h.1 ((List.pairwise_cons.mp ih).1 x e)
  · induction m with
    | nil => intro _; rfl
    | cons a r ih =>
      cases r with
      | nil => intro _; rfl
      | cons b q =>
        intro h
        have h2 := List.pairwise_cons.mp h
        simp only [ascL, Bool.and_eq_true, decide_eq_true_eq]
        exact ⟨h2.1 b List.mem_cons_self, ih h2.2⟩
theorem asc_range (n : Nat) : ascL (List.range n) = true := asc_pair.mpr List.pairwise_lt_range
theorem set_here {S : Store} {b : Nat} {d : Dat} (h : S[b]? = some d) : S.set b d = S := (set_self h).symm
end DL
/-! SA: promises: alphabets needed, drawn signs, drawn texts. -/
namespace DL
open PySem L2
abbrev natD (n : Nat) : Dat := .int (n : Int)
def sp_need_alphabet (K : PySem.W.Frag) : Spec := fun ds S Kt X => ∃ d, ds = [d] ∧ ((∃ z : Str, d = .str z ∧ z.length ≤ 1000000 ∧ isAlpha z = true ∧ Kt .non S) ∨ (((∃ z : Str, d = .str z ∧ z.length ≤ 1000000 ∧ isAlpha z = false) ∨ notStr S d) ∧ X ⟨He.ga K "InvalidAlphabet", ["code", "given"], [.str "InvalidAlphabet", d]⟩ S))
/-- a list that is returned: as what never changes, or as a cell of its own -/
def outL (S : Store) (Kt : KE) (xs : List Dat) : Prop := Kt (.lst xs) S ∨ ∀ (R : List Dat) (m : Nat), R[m]? = some (.lst xs) → belows 0 R → Kt (.cell (S.length + m)) (S ++ R)
/-- no word over a -/
def badWord (S : Store) (a : Str) (v : Dat) : Prop := (∃ z : Str, v = .str z ∧ z.length ≤ 1000000 ∧ isWord a z = false) ∨ notStr S v
def sp_law_signs (K : PySem.W.Frag) : Spec := fun ds S Kt _ => ∃ (b : Nat) (bag : Dat), ds = [.cell b] ∧ S[b]? = some bag ∧ IsBag bag ∧ ∀ z bag', isAlpha z = true → IsBag bag' → Kt (.str z) (S.set b bag')
def sp_law_text (K : PySem.W.Frag) : Spec := fun ds S Kt _ => ∃ (b : Nat) (bag : Dat) (z : Str) (n : Nat), ds = [.cell b, .str z, natD n] ∧ n ≤ 1000 ∧ 0 < z.length ∧ z.length ≤ 1000 ∧ S[b]? = some bag ∧ IsBag bag ∧ ∀ t : Str, ∀ bag', t.length = n → isWord z t = true → IsBag bag' → Kt (.str t) (S.set b bag')
abbrev excIW (K : PySem.W.Frag) (v : Dat) : Exc := ⟨He.ga K "InvalidWord", ["code", "given"], [.str "InvalidWord", v]⟩
def sp_need_word (K : PySem.W.Frag) : Spec := fun ds S Kt X => ∃ (a : Str) (v : Dat), ds = [.str a, v] ∧ ((∃ z : Str, v = .str z ∧ z.length ≤ 1000000 ∧ isWord a z = true ∧ Kt .non S) ∨ (badWord S a v ∧ X (excIW K v) S))
theorem len_need_alphabet {K : PySem.W.Frag} {ds S Kt X} (h : sp_need_alphabet K ds S Kt X) : ds.length = 1 := by obtain ⟨_, rfl, _⟩ := h; rfl
theorem len_law_signs {K : PySem.W.Frag} {ds S Kt X} (h : sp_law_signs K ds S Kt X) : ds.length = 1 := by obtain ⟨_, _, rfl, _⟩ := h; rfl
theorem len_law_text {K : PySem.W.Frag} {ds S Kt X} (h : sp_law_text K ds S Kt X) : ds.length = 3 := by obtain ⟨_, _, _, _, rfl, _⟩ := h; rfl
theorem len_need_word {K : PySem.W.Frag} {ds S Kt X} (h : sp_need_word K ds S Kt X) : ds.length = 2 := by obtain ⟨_, _, rfl, _⟩ := h; rfl
def u_need_alphabet (K : PySem.W.Frag) : US :=
  (uIfS (uNot (uTru (uCall (sp_is_alphabet K) [] (uCons (uVar 0) uNil)))) (uRaise (He.ga K "InvalidAlphabet") [("code", .c "InvalidAlphabet"), ("given", .a 0)] 1 false (uCons (uVar 0) uNil)) uNext)
def u_need_word (K : PySem.W.Frag) : US :=
  (uIfS (uNot (uTru (uCall (sp_is_word K) [] (uCons (uVar 0) (uCons (uVar 1) uNil))))) (uRaise (He.ga K "InvalidWord") [("code", .c "InvalidWord"), ("given", .a 0)] 1 false (uCons (uVar 1) uNil)) uNext)
def u_law_signs (K : PySem.W.Frag) : US :=
  (uSeq (uSet 1 (uOp gAdd (uC (.int 1)) (uCall (sp_law_of K) [] (uCons (uVar 0) (uCons (uLst (uCons (uC (.int 0)) (uCons (uC (.int 1)) (uCons (uC (.int 1)) (uCons (uC (.int 1)) (uCons (uC (.int 2)) (uCons (uC (.int 3)) uNil))))))) uNil)))))
    (uSeq (uSet 2 (uLstC uNil))
    (uSeq (uFor (uR1 (uCons (uVar 1) uNil)) (uName 3) (uSeq (uSet 4 (uLc (uSeqI (uC (.str "abcdefghijklmnopqrstuvwxyz"))) [5] (uName 5) (uTest (uOp (gIn (!·)) (uVar 5) (uVar 2))) (uVar 5)))
    (uDrop (uBM "list" gAppend (uVar 2) (uCons (uOp gIx (uVar 4) (uCall (sp_law_of K) [] (uCons (uVar 0) (uCons (uLst (uCons (uC (.int 0)) (uCons (uC (.int 0)) (uCons (uC (.int 0)) (uCons (uCall (sp_law_pull K) [] (uCons (uVar 0) (uCons (uCB gLen (uCons (uVar 4) uNil)) uNil))) uNil))))) uNil)))) uNil)))))
    (uRet (uBM "str" gJoin (uC (.str "")) (uCons (uCB (gSortedS fun xs S K => K (.lst xs) S) (uCons (uVar 2) uNil)) uNil))))))
def u_law_text (K : PySem.W.Frag) : US :=
  (uRet (uBM "str" gJoin (uC (.str "")) (uCons (uLc (uR1 (uCons (uVar 2) uNil)) [3] (uName 3) uYes (uCall (sp_law_of K) [] (uCons (uVar 0) (uCons (uVar 1) uNil)))) uNil)))
end DL
namespace DL
open PySem L2
local macro_rules | `(tactic| walk_at "e1") => `(tactic| with_reducible first
  | refine x_var rfl ?_ | refine x_c ?_ | refine x_op ?_ | refine x_un ?_ | refine x_nil ?_ | refine x_cons ?_ | refine x_tup ?_ | refine x_lst ?_ | refine x_lstC ?_ | refine x_cb ?_ | refine x_call ?_ | refine x_if ?_
  | refine x_test ?_ | refine x_and ?_ | refine x_or ?_ | refine x_not ?_ | refine x_tru ?_ | refine x_andV ?_ | refine x_orV ?_ | refine x_notV ?_ | refine x_yes ?_ | refine x_chain ?_
  | refine x_bm ?_ | refine x_bm0 ?_ | refine x_part ?_ | refine x_no ?_ | refine x_sl ?_ | refine x_seqI ?_ | refine x_r1 ?_ | refine x_r2 ?_ | refine x_z ?_ | refine x_lc ?_ | refine x_lcC ?_ | refine x_lcW ?_ | refine x_fld ?_ | refine x_meth ?_ | refine x_prop ?_ | refine x_make ?_ | refine x_en ?_ | refine x_makeK ?_ | refine x_give ?_ | refine x_lam ?_)
local macro_rules | `(tactic| walk_at "s1") => `(tactic| with_reducible first
  | refine x_seq ?_ | refine x_next ?_ | refine x_break ?_ | refine x_cont ?_ | refine x_drop ?_ | refine x_ret ?_ | refine x_retN ?_ | refine x_ifS ?_ | refine x_set ?_ | refine x_asg ?_ | refine x_par ?_ | refine x_gsub ?_ | refine x_gnil ?_ | refine x_gcons ?_ | refine x_setF ?_ | refine x_for ?_ | refine x_raise ?_ | refine x_rz1 ?_ | refine x_rz0 ?_)
local macro_rules | `(tactic| walk_at "g1") => `(tactic| first
  | with_reducible refine x_iteT ?_ | with_reducible refine x_iteF ?_ | with_reducible refine x_tN ?_ | with_reducible refine x_tB ?_ | with_reducible refine x_tI ?_ | with_reducible refine x_tT ?_ | with_reducible refine x_tL ?_
  | with_reducible refine x_addI ?_ | with_reducible refine x_sub ?_ | with_reducible refine x_ltI ?_ | with_reducible refine x_leI ?_ | with_reducible refine x_gtI ?_ | with_reducible refine x_geI ?_ | with_reducible refine x_ltS ?_ | with_reducible refine x_leS ?_ | with_reducible refine x_gtS ?_ | with_reducible refine x_geS ?_
  | with_reducible refine x_eqI ?_ | with_reducible refine x_eqS ?_ | with_reducible refine x_eqB ?_ | with_reducible refine x_neI ?_ | with_reducible refine x_neS ?_ | with_reducible refine x_neB ?_ | with_reducible refine x_neg ?_
  | with_reducible refine x_inS ?_ | with_reducible refine x_notinS ?_ | with_reducible refine x_intI ?_ | with_reducible refine x_intB ?_ | with_reducible refine x_abs ?_ | with_reducible refine x_slL ?_ | with_reducible refine x_slT ?_ | with_reducible refine x_min2 ?_ | with_reducible refine x_max2 ?_
  | ((with_reducible refine x_is ?_ ?_); · rfl) | ((with_reducible refine x_isnot ?_ ?_); · rfl) | ((with_reducible refine x_isiD ?_ ?_ ?_); (next => rfl); (next => decide)) | ((with_reducible refine x_isiD2 ?_ ?_ ?_ ?_); (next => rfl); (next => decide); (next => decide)) | ((with_reducible refine x_name ?_ ?_); · exact of_decide_eq_true rfl) | ((with_reducible refine x_gtup ?_ ?_); · rfl))
local macro_rules | `(tactic| walk_at "d") => `(tactic| repeat (first | walk_at "e1" | walk_at "s1" | walk_at "g1" | ((with_reducible refine x_putL ?_ ?_); · rfl) | ((with_reducible refine x_szL ?_ ?_); · rfl) | dsimp only [List.set_cons_succ, List.set_cons_zero]))
local macro_rules | `(tactic| walk_at "i") => `(tactic| repeat (first | walk_at "e1" | walk_at "s1" | walk_at "g1" | ((with_reducible refine x_putL ?_ ?_); · rfl) | ((with_reducible refine x_szL ?_ ?_); · rfl) | ((with_reducible refine x_iteT2 ?_ ?_); · rfl) | ((with_reducible refine x_iteF2 ?_ ?_); · rfl) | dsimp only [List.set_cons_succ, List.set_cons_zero]))
local macro_rules | `(tactic| walk_at "g2") => `(tactic| with_reducible first | refine x_ixt0 ?_ | refine x_ixt1 ?_ | refine x_ixt2 ?_ | refine x_ixt3 ?_ | refine x_lenT ?_)
local macro_rules | `(tactic| walk_at "j") => `(tactic| repeat (first | walk_at "e1" | walk_at "s1" | walk_at "g1" | walk_at "g2" | ((with_reducible refine x_inTi ?_ ?_); · rfl) | ((with_reducible refine x_inTn ?_ ?_); · rfl) | ((with_reducible refine x_putL ?_ ?_); · rfl) | ((with_reducible refine x_szL ?_ ?_); · rfl) | ((with_reducible refine x_iteT2 ?_ ?_); · rfl) | ((with_reducible refine x_iteF2 ?_ ?_); · rfl) | dsimp only [List.set_cons_succ, List.set_cons_zero]))
theorem r_need_alphabet {KF : PySem.W.Frag} {ds S K X} (h : sp_need_alphabet KF ds S K X) (hb : belows S.length ds) (hS : belows S.length S) : u_need_alphabet KF (endsOf S K X) (startD ["value"] ds) S := by
  obtain ⟨d, rfl, h⟩ := h
  simp only [belows] at hb
  show u_need_alphabet KF (endsOf S K X) [some d] S
  have ex : X ⟨He.ga KF "InvalidAlphabet", ["code", "given"], [.str "InvalidAlphabet", d]⟩ S → (endsOf S K X).ex ⟨He.ga KF "InvalidAlphabet", ["code", "given"], [.str "InvalidAlphabet", d]⟩ [some d] S := fun k => exitX_here (dl := [some d]) (by simp only [belows, below]; exact ⟨True.intro, hb.1, True.intro⟩) k
  unfold u_need_alphabet
  walk_at "i"
  rcases h with ⟨z, rfl, hz, ha, k⟩ | ⟨⟨z, rfl, hz, ha⟩ | hn, k⟩
  · refine .inl ⟨z, rfl, hz, ?_⟩
    rw [ha]
    walk_at "i"
    exact exit_here (by simp only [below]) k
  · refine .inl ⟨z, rfl, hz, ?_⟩
    rw [ha]
    walk_at "i"
    exact ex k
  · refine .inr ⟨d, rfl, hn, ?_⟩
    walk_at "i"
    exact ex k
theorem cutD_one {x : Dat} {xs : List Dat} : cutD (x :: xs) (some 1) none = xs := by
  have := cut_from (x :: xs) 1
  exact this
theorem belows_app {n : Nat} : ∀ {xs ys : List Dat}, belows n xs → belows n ys → belows n (xs ++ ys)
  | [], _, _, h => h
  | x :: xs, ys, h, k => by simp only [List.cons_append, belows] at h ⊢; exact ⟨h.1, belows_app h.2 k⟩
theorem outL_exit {S : Store} {K : KE} {xs : List Dat} (hS : belows S.length S) (hx : belows S.length xs) (h : outL S K xs) : outL S (ExitTo S K) xs := by
  rcases h with h | h
  · exact .inl (exit_here (by simp only [below]; exact hx) h)
  · refine .inr fun R m hR hb => ⟨S ++ R, .cell (S.length + m), ⟨⟨[], by simp⟩, by rw [List.length_append]; omega, .inr ?_⟩, .same ?_, h R m hR hb⟩
    · rw [List.length_append]
      exact belows_app (hS.mono (by omega)) (hb.mono (by omega))
    · have := (List.getElem?_eq_some_iff.mp hR).1
      simp only [below, List.length_append]; omega
theorem bad_of {S : Store} {a : Str} {v : Dat} {KF : PySem.W.Frag} {Kt : KE} {X : KX} (h : badWord S a v) (k : Kt (.bl false) S) : sp_is_word KF [.str a, v] S Kt X := by
  rcases h with ⟨z, rfl, hz, hw⟩ | hn
  · exact ⟨a, .inl ⟨z, rfl, hz, by rw [hw]; exact k⟩⟩
  · exact ⟨a, .inr ⟨v, rfl, hn, k⟩⟩
theorem str_len (l : List Nat) : (⟨l.toArray⟩ : Str).length = l.length := by rw [← cps_len]
theorem str_app (l m : List Nat) : (⟨l.toArray⟩ : Str) ++ (⟨m.toArray⟩ : Str) = ⟨(l ++ m).toArray⟩ := by
  show Str.mk _ = _
  congr 1
  simp
theorem r_law_text {KF : PySem.W.Frag} {ds S K X} (h : sp_law_text KF ds S K X) (hb : belows S.length ds) (hS : belows S.length S) : u_law_text KF (endsOf S K X) (startD ["_law_bag_here", "_law_signs_here", "_law_size", "_law_k"] ds) S := by
  obtain ⟨b, bag, z, n, rfl, hn, hz0, hz, hbag, hB, k⟩ := h
  have hzl0 := cps_len z
  have hz0 : 0 < z.cps.toList.length := by omega
  have hbl : b < S.length := (List.getElem?_eq_some_iff.mp hbag).1
  show u_law_text KF (endsOf S K X) [some (.cell b), some (.str z), some (natD n), none] S
  unfold u_law_text
  walk_at "i"
  refine ⟨rfl, ?_⟩
  walk_at "i"
  refine ⟨⟨by omega, by omega⟩, ?_⟩
  refine ⟨fun j acc S1 => ∃ cs : List Nat, ∃ bag', acc = cs.map (fun c => Dat.str (sgn c)) ∧ cs.length = j ∧ (∀ c ∈ cs, c ∈ z.cps.toList) ∧ IsBag bag' ∧ S1 = S.set b bag', ⟨[], bag, rfl, rfl, fun c h => (List.not_mem_nil h).elim, hB, (set_self hbag)⟩, ?_, ?_⟩
  · rintro j d acc S2 hj ⟨cs, bag', rfl, hcl, hcs, hB', rfl⟩
    have hj2 : j < n := by
      have := (List.getElem?_eq_some_iff.mp hj).1
      simpa [rangeD] using this
    have : sizeLine = 16777216 := rfl
    refine ⟨trivial, by rw [List.length_map]; omega, ?_⟩
    dsimp only [wipeD, List.set_cons_succ, List.set_cons_zero]
    walk_at "i"
    refine of_str hz0 (by omega) (List.getElem?_set_self hbl) hB' (fun c bag2 hc hB2 => ?_)
    rw [List.set_set]
    refine ⟨cs ++ [c], bag2, by rw [List.map_append]; rfl, by rw [List.length_append, hcl]; rfl, fun q hq => ?_, hB2, rfl⟩
    rcases List.mem_append.mp hq with h | h
    · exact hcs q h
    · rw [List.mem_singleton.mp h]; exact hc
  · rintro acc S2 ⟨cs, bag', rfl, hcl, hcs, hB', rfl⟩
    refine ⟨trivial, ?_⟩
    have hcn : cs.length = n := by rw [hcl]; simp [rangeD]
    walk_at "i"
    refine x_join (ss := cs.map sgn) (by rw [List.map_map]; rfl) ?_ ?_
    · have hs : ((cs.map sgn).map (·.length)).sum = cs.length := by
        clear hcl hcs hcn
        induction cs with
        | nil => rfl
        | cons c r ih => simp only [List.map_cons, List.sum_cons, ih, List.length_cons]; show 1 + r.length = _; omega
      rw [hs, show (Str.ofString "").length = 0 from rfl]
      omega
    · refine x_rtE ?_
      have hc := join_cps cs
      exact exit_set0 hS (bag_below hB') (by simp only [below]) (k _ bag' (by rw [← cps_len, hc, hcn]) (by unfold isWord; rw [hc]; exact List.all_eq_true.mpr fun c h => decide_eq_true (hcs c h)) hB')
/-- an alphabet that is drawn -/
def isSigns (z : Str) : Prop := isAlpha z = true
def restOf (cs : List Nat) : List Nat := abc.cps.toList.filter fun c => !decide (c ∈ cs)
theorem inF_sgn (c : Nat) (cs : List Nat) : inF (.str (sgn c)) (cs.map fun c => .str (sgn c)) = some (decide (c ∈ cs)) := by
  have h : (cs.map fun c => Dat.str (sgn c)).mapM flat? = some (cs.map fun c => V.str (sgn c)) := by
    induction cs with
    | nil => rfl
    | cons a r ih => rw [List.map_cons, List.mapM_cons, ih]; rfl
  unfold inF
  rw [h]
  show some (inV _ _) = _
  congr 1
  unfold inV
  rw [List.any_map]
  have key : ∀ a : Nat, eqV (.str (sgn a)) (.str (sgn c)) = decide (a = c) := fun a => by
    show decide (sgn a = sgn c) = decide (a = c)
    by_cases e : a = c
    · subst e; simp
    · have : sgn a ≠ sgn c := fun h => e (by injection h with h; simpa using h)
      rw [decide_eq_false e, decide_eq_false this]
  induction cs with
  | nil => rfl
  | cons a r ih =>
    rw [List.any_cons, ih (by
      have := h
      rw [List.map_cons, List.mapM_cons] at this
      cases hh : (r.map fun c => Dat.str (sgn c)).mapM flat? with
      | none => rw [hh] at this; cases this
      | some q => rw [hh] at this; have t2 : some (V.str (sgn a) :: q) = some (V.str (sgn a) :: r.map fun c => V.str (sgn c)) := this; injection t2 with t2; injection t2 with _ t2; rw [t2])]
    show (eqV (.str (sgn a)) (.str (sgn c)) || decide (c ∈ r)) = _
    rw [key]
    by_cases e : a = c
    · subst e; simp
    · have e2 : c ≠ a := fun h => e h.symm
      simp [e, e2]
theorem filter_le : ∀ (l cs : List Nat), l.Nodup → (l.filter fun c => decide (c ∈ cs)).length ≤ cs.length
  | [], cs, _ => by simp
  | x :: l, cs, h => by
    have hn := List.nodup_cons.mp h
    by_cases hx : x ∈ cs
    · rw [List.filter_cons_of_pos (by simpa using hx), List.length_cons]
      have e : (l.filter fun c => decide (c ∈ cs)) = l.filter fun c => decide (c ∈ cs.erase x) := List.filter_congr fun y hy => by
        have : y ≠ x := fun z => hn.1 (z ▸ hy)
        exact decide_eq_decide.mpr (List.mem_erase_of_ne this).symm
      have := filter_le l (cs.erase x) hn.2
      rw [e]
      have h2 := List.length_erase_of_mem hx
      have h3 : 0 < cs.length := List.length_pos_of_mem hx
      omega
    · rw [List.filter_cons_of_neg (by simpa using hx)]
      exact filter_le l cs hn.2
theorem abc_nodup : abc.cps.toList.Nodup := by decide +kernel
theorem abc_len : abc.cps.toList.length = 26 := by decide +kernel
theorem rest_len {cs : List Nat} (h : cs.length < 20) : 0 < (restOf cs).length ∧ (restOf cs).length ≤ 26 := by
  have h1 := filter_le abc.cps.toList cs abc_nodup
  have h2 : ∀ l : List Nat, (l.filter fun c => decide (c ∈ cs)).length + (l.filter fun c => !decide (c ∈ cs)).length = l.length := fun l => by
    induction l with
    | nil => rfl
    | cons a r ih =>
      by_cases ha : a ∈ cs
      · rw [List.filter_cons_of_pos (by simpa using ha), List.filter_cons_of_neg (by simpa using ha), List.length_cons, List.length_cons]; omega
      · rw [List.filter_cons_of_neg (by simpa using ha), List.filter_cons_of_pos (by simpa using ha), List.length_cons, List.length_cons]; omega
  have h3 := h2 abc.cps.toList
  rw [abc_len] at h3
  unfold restOf
  omega
theorem asc_of_sorted : ∀ (ds : List Nat), PyProof.Rows.sortedS (ds.map sgn) = true → ds.Nodup → ascL ds = true
  | [], _, _ => rfl
  | [a], _, _ => rfl
  | a :: b :: r, h, hn => by
    have h1 : (!PySem.Spec.ltCps [b] [a] && PyProof.Rows.risingS (sgn b) (r.map sgn)) = true := h
    rw [Bool.and_eq_true] at h1
    have hn2 := List.nodup_cons.mp hn
    have ih := asc_of_sorted (b :: r) h1.2 hn2.2
    have hlt : a < b := by
      have h2 : ¬ b < a := by
        intro z
        have : PySem.Spec.ltCps [b] [a] = true := by simp [PySem.Spec.ltCps, z]
        rw [this] at h1
        exact absurd h1.1 (by decide)
      have h3 : a ≠ b := fun z => hn2.1 (by rw [z]; exact List.mem_cons_self)
      omega
    simp only [ascL, ih, Bool.and_true]
    exact decide_eq_true hlt
theorem signs_of {cs : List Nat} {ys : List Str} (hp : ys.Perm (cs.map sgn)) (hs : PyProof.Rows.sortedS ys = true) (hn : cs.Nodup) : ∃ ds : List Nat, ys = ds.map sgn ∧ ds.Perm cs ∧ ascL ds = true := by
  have hf : ∀ l : List Nat, (l.map sgn).map (fun y => y.cps.toList.headD 0) = l := fun l => by
    rw [List.map_map]
    induction l with
    | nil => rfl
    | cons a r ih => rw [List.map_cons, ih]; rfl
  have h1 : (ys.map fun y => y.cps.toList.headD 0).Perm cs := by
    have := hp.map (fun y => y.cps.toList.headD 0)
    rwa [hf] at this
  have h2 : ys = (ys.map fun y => y.cps.toList.headD 0).map sgn := by
    have hm : ∀ y ∈ ys, sgn (y.cps.toList.headD 0) = y := fun y hy => by
      obtain ⟨c, _, rfl⟩ := List.mem_map.mp (hp.mem_iff.mp hy)
      rfl
    rw [List.map_map]
    clear hp hs h1
    induction ys with
    | nil => rfl
    | cons y r ih =>
      rw [List.map_cons, ← ih fun z hz => hm z (List.mem_cons_of_mem _ hz)]
      congr 1
      exact (hm y List.mem_cons_self).symm
  refine ⟨_, h2, h1, asc_of_sorted _ (by rw [← h2]; exact hs) (h1.nodup_iff.mpr hn)⟩
theorem alpha_of {ds : List Nat} (h1 : 1 ≤ ds.length) (h4 : ds.length ≤ 4) (ha : ∀ c ∈ ds, c ∈ abc.cps.toList) (hs : ascL ds = true) : isSigns (Txt.join "" (ds.map sgn)) := by
  unfold isSigns isAlpha
  rw [join_cps]
  have : (ds.all fun c => decide (c ∈ abc.cps.toList)) = true := List.all_eq_true.mpr fun c hc => decide_eq_true (ha c hc)
  rw [this, hs, decide_eq_true h1, decide_eq_true h4]
  rfl
theorem r_law_signs {KF : PySem.W.Frag} {ds S K X} (h : sp_law_signs KF ds S K X) (hb : belows S.length ds) (hS : belows S.length S) : u_law_signs KF (endsOf S K X) (startD ["_law_bag_here", "_law_many", "_law_found", "_law_k", "_law_rest", "_law_sign"] ds) S := by
  obtain ⟨b, bag, rfl, hbag, hB, k⟩ := h
  have hbl : b < S.length := (List.getElem?_eq_some_iff.mp hbag).1
  show u_law_signs KF (endsOf S K X) [some (.cell b), none, none, none, none, none] S
  have hsz : sizeLine = 16777216 := rfl
  unfold u_law_signs
  walk_at "i"
  refine of_lst (by decide) (by decide) hbag hB (fun i x bag1 hx hB1 => ?_)
  obtain ⟨m, rfl, hm⟩ : ∃ m : Nat, x = .int m ∧ m ≤ 3 := by
    match i, hx with
    | 0, hx => exact ⟨0, (Option.some.inj hx).symm, by decide⟩
    | 1, hx => exact ⟨1, (Option.some.inj hx).symm, by decide⟩
    | 2, hx => exact ⟨1, (Option.some.inj hx).symm, by decide⟩
    | 3, hx => exact ⟨1, (Option.some.inj hx).symm, by decide⟩
    | 4, hx => exact ⟨2, (Option.some.inj hx).symm, by decide⟩
    | 5, hx => exact ⟨3, (Option.some.inj hx).symm, by decide⟩
    | n + 6, hx => cases hx
  walk_at "i"
  refine ⟨⟨by omega, by omega⟩, ?_⟩
  rw [List.length_set]
  refine ⟨fun j dl S2 => ∃ (cs : List Nat) (bag' : Dat) (x3 x4 x5 : Option Dat), dl = [some (.cell b), some (.int (1 + (m : Int))), some (.cell S.length), x3, x4, x5] ∧ S2 = S.set b bag' ++ [.lst (cs.map fun c => .str (sgn c))] ∧ cs.length = j ∧ cs.Nodup ∧ (∀ c ∈ cs, c ∈ abc.cps.toList) ∧ IsBag bag',
    ⟨[], bag1, _, _, _, rfl, rfl, rfl, List.nodup_nil, fun c h => (List.not_mem_nil h).elim, hB1⟩, ?_, ?_⟩
  · rintro j d dl S2 hj ⟨cs, bag', x3, x4, x5, rfl, rfl, hcl, hnd, habc, hB'⟩
    have hj2 : j < (1 + (m : Int)).toNat := by
      have := (List.getElem?_eq_some_iff.mp hj).1
      simpa [rangeD] using this
    refine ⟨trivial, ?_⟩
    have hrl := rest_len (cs := cs) (by omega)
    walk_at "i"
    refine ⟨abc.cps.toList.map fun c => .str (sgn c), rfl, ?_⟩
    refine lc_pickG (xs := abc.cps.toList.map fun c => Dat.str (sgn c)) (fun d => match d with | .str z => if z.cps.toList.headD 0 ∈ cs then none else some d | _ => none) (by exact rfl) (by rw [List.length_map, abc_len]; decide) (fun n d Kt Kf hn h1 h2 => ?_) ?_
    · rw [List.getElem?_map] at hn
      obtain ⟨c, _, rfl⟩ := Option.map_eq_some_iff.mp hn
      dsimp only [wipeD, List.set_cons_succ, List.set_cons_zero]
      walk_at "i"
      refine ⟨_, _, by simp only [seqD, st_new], inF_sgn c cs, ?_⟩
      dsimp only
      refine x_ite (fun e => ?_) (fun e => ?_)
      · have hc : ¬ c ∈ cs := by simpa using e
        walk_at "i"
        exact h1 _ (if_neg hc)
      · have hc : c ∈ cs := by simpa using e
        exact h2 (if_pos hc)
    · have hrest : ((abc.cps.toList.map fun c => Dat.str (sgn c)).filterMap fun d => match d with | .str z => if z.cps.toList.headD 0 ∈ cs then none else some d | _ => none) = (restOf cs).map fun c => .str (sgn c) := by
        unfold restOf
        generalize abc.cps.toList = l
        induction l with
        | nil => rfl
        | cons a r ih =>
          by_cases ha : a ∈ cs
          · rw [List.filter_cons_of_neg (by simpa using ha), ← ih, List.map_cons, List.filterMap_cons_none]
            exact if_pos ha
          · rw [List.filter_cons_of_pos (by simpa using ha), List.map_cons, List.map_cons, List.filterMap_cons_some (b := .str (sgn a)), ih]
            exact if_neg ha
      rw [hrest]
      walk_at "i"
      refine ⟨⟨rfl, by simp only [lstD, view, st_new]; rfl⟩, ?_⟩
      walk_at "i"
      refine x_lenL rfl ?_
      walk_at "i"
      rw [List.length_map]
      refine pull_of (by omega) (by omega) (st_old hbl) hB' (fun p bag2 hp hB2 => ?_)
      rw [st_setOld hbl]
      walk_at "i"
      refine of_lst (Nat.le_of_ble_eq_true rfl) (Nat.le_of_ble_eq_true rfl) (st_old hbl) hB2 (fun i x bag3 hx hB3 => ?_)
      rw [st_setOld hbl]
      obtain ⟨q, rfl, hq⟩ : ∃ q : Nat, x = .int q ∧ q < (restOf cs).length := by
        match i, hx with
        | 0, hx => exact ⟨0, (Option.some.inj hx).symm, by omega⟩
        | 1, hx => exact ⟨0, (Option.some.inj hx).symm, by omega⟩
        | 2, hx => exact ⟨0, (Option.some.inj hx).symm, by omega⟩
        | 3, hx => exact ⟨p, (Option.some.inj hx).symm, by omega⟩
        | n + 4, hx => cases hx
      obtain ⟨c, hc⟩ : ∃ c, (restOf cs)[q]? = some c := ⟨(restOf cs)[q], List.getElem?_eq_getElem hq⟩
      have hc2 := List.mem_filter.mp (List.mem_of_getElem? hc)
      refine x_ixL (d := .str (sgn c)) rfl ?_ ?_
      · unfold atI ixN
        rw [if_pos (by omega), if_pos (by rw [List.length_map]; omega)]
        simp [hc]
      walk_at "i"
      refine x_append st_new (by rw [List.length_map]; omega) ?_
      rw [st_setNew]
      refine .inl ⟨cs ++ [c], bag3, _, _, _, rfl, by rw [List.map_append]; rfl, by rw [List.length_append, hcl]; rfl, ?_, fun z hz => ?_, hB3⟩
      · refine List.nodup_append.mpr ⟨hnd, by simp, fun a ha a' ha' z => ?_⟩
        have e : a' = c := List.mem_singleton.mp ha'
        rw [z, e] at ha
        simp [ha] at hc2
      · rcases List.mem_append.mp hz with h | h
        · exact habc z h
        · rw [List.mem_singleton.mp h]; exact hc2.1
  · rintro dl S2 ⟨cs, bag', x3, x4, x5, rfl, rfl, hcl, hnd, habc, hB'⟩
    have hcn : cs.length = 1 + m := by rw [hcl]; simp [rangeD]; omega
    refine ⟨trivial, ?_⟩
    walk_at "i"
    refine ⟨rfl, ?_⟩
    walk_at "i"
    refine ⟨cs.map sgn, by simp only [lstD, view, st_new, List.map_map]; rfl, by rw [List.length_map]; omega, fun ys hp hs => ?_⟩
    obtain ⟨ds, rfl, hp2, hasc⟩ := signs_of hp hs hnd
    walk_at "i"
    refine x_join (ss := ds.map sgn) rfl ?_ ?_
    · have hs : ∀ ds : List Nat, ((ds.map sgn).map (·.length)).sum = ds.length := fun ds => by
        induction ds with
        | nil => rfl
        | cons c r ih => simp only [List.map_cons, List.sum_cons, ih, List.length_cons]; show 1 + r.length = _; omega
      rw [hs, show (Str.ofString "").length = 0 from rfl, hp2.length_eq]
      omega
    · refine x_rtE ?_
      refine exit_set hS (bag_below hB') (by simp only [below]) (k _ bag' (alpha_of (by rw [hp2.length_eq]; omega) (by rw [hp2.length_eq]; omega) (fun c hc => habc c (hp2.mem_iff.mp hc)) hasc) hB')
theorem rangeD0 (n : Nat) : rangeD 0 n = (List.range n).map (fun (i : Nat) => Dat.int (i : Int)) := by
  unfold rangeD
  refine List.map_congr_left fun i _ => ?_
  rw [Int.zero_add]
theorem alpha_len {z : Str} (h : isAlpha z = true) : z.length ≤ 4 ∧ 0 < z.length ∧ ascL z.cps.toList = true := by
  simp only [isAlpha, Bool.and_eq_true, decide_eq_true_eq] at h
  have := cps_len z
  exact ⟨by omega, by omega, h.2.2⟩
theorem at_last (w : List Nat) (c : Nat) : atI (w ++ [c]) (-1) = some c := by
  unfold atI ixN
  rw [if_neg (by decide), List.length_append, List.length_singleton, if_pos (by omega)]
  show (w ++ [c])[(_ : Int).toNat]? = _
  rw [show ((-1 : Int) + ((w.length + 1 : Nat) : Int)).toNat = w.length by omega]
  simp
theorem same_two {S : Store} {n : Nat} {a b : Dat} (h1 : SameD S n a a) (h2 : SameD S n b b) : SameD S (n + 1) (.lst [a, b]) (.lst [a, b]) :=
  .inr (.inr (.inr (.inr (.inr ⟨_, _, rfl, rfl, rfl, Nat.le_of_ble_eq_true rfl, fun i x y e1 e2 => by
    rw [e1] at e2
    injection e2 with e2
    subst e2
    match i, e1 with
    | 0, e1 => cases e1; exact h1
    | 1, e1 => cases e1; exact h2
    | n + 2, e1 => cases e1⟩))))
theorem same_t2 {S : Store} {n : Nat} {a b : Dat} (h1 : SameD S n a a) (h2 : SameD S n b b) : SameD S (n + 1) (.tup [a, b]) (.tup [a, b]) :=
  .inr (.inr (.inr (.inr (.inl ⟨_, _, rfl, rfl, rfl, Nat.le_of_ble_eq_true rfl, fun i x y e1 e2 => by
    rw [e1] at e2
    injection e2 with e2
    subst e2
    match i, e1 with
    | 0, e1 => cases e1; exact h1
    | 1, e1 => cases e1; exact h2
    | n + 2, e1 => cases e1⟩))))
theorem same_t1 {S : Store} {n : Nat} {a : Dat} (h1 : SameD S n a a) : SameD S (n + 1) (.tup [a]) (.tup [a]) :=
  .inr (.inr (.inr (.inr (.inl ⟨_, _, rfl, rfl, rfl, Nat.le_of_ble_eq_true rfl, fun i x y e1 e2 => by
    rw [e1] at e2
    injection e2 with e2
    subst e2
    match i, e1 with
    | 0, e1 => cases e1; exact h1
    | n + 1, e1 => cases e1⟩))))
theorem same_l1 {S : Store} {n : Nat} {a : Dat} (h1 : SameD S n a a) : SameD S (n + 1) (.lst [a]) (.lst [a]) :=
  .inr (.inr (.inr (.inr (.inr ⟨_, _, rfl, rfl, rfl, Nat.le_of_ble_eq_true rfl, fun i x y e1 e2 => by
    rw [e1] at e2
    injection e2 with e2
    subst e2
    match i, e1 with
    | 0, e1 => cases e1; exact h1
    | n + 1, e1 => cases e1⟩))))
theorem same_bl {S : Store} {n : Nat} {b : Bool} : SameD S (n + 1) (.bl b) (.bl b) := .inr (.inl ⟨b, rfl, rfl⟩)
theorem same_str {S : Store} {n : Nat} {b : Str} : SameD S (n + 1) (.str b) (.str b) := .inr (.inr (.inr (.inl ⟨b, rfl, rfl⟩)))
theorem same_int {S : Store} {n : Nat} {b : Int} : SameD S (n + 1) (.int b) (.int b) := .inr (.inr (.inl ⟨b, rfl, rfl⟩))
theorem same_non {S : Store} {n : Nat} : SameD S (n + 1) .non .non := .inl ⟨rfl, rfl⟩
/-- only the first slots and the bag are wanted further on -/
theorem gc_keep {N n : Nat} {J : Env' → Store → Prop} {pre post : List (Option Dat)} {bag : Dat} {R : Store} (hN : N ≤ 1) (hB : IsBag bag) (hp : ∀ d, some d ∈ pre → below 1 d) (hn : post.length = n) (h : J (pre ++ List.replicate n none) [bag]) : GcTo N J (pre ++ post) (bag :: R) := by
  refine .inr ⟨pre ++ List.replicate n none, [bag], ⟨⟨R, rfl⟩, hN, by simp only [belows, and_true]; exact bag_below hB, by simp [hn], fun i d e => ?_⟩, h⟩
  by_cases hi : i < pre.length
  · rw [List.getElem?_append_left hi] at e ⊢
    exact ⟨e, hp d (List.mem_of_getElem? e)⟩
  · rw [List.getElem?_append_right (by omega), List.getElem?_replicate] at e
    split at e <;> cases e
theorem prime_of {p : Nat} (h2 : 2 ≤ p) (h99 : p ≤ 99) (h : ∀ d ∈ [2, 3, 4, 5, 6, 7, 8, 9], d * d ≤ p → p % d ≠ 0) : isPrime (p : Int) := by
  refine ⟨by omega, fun d h1 hd e => ?_⟩
  have hd9 : d ≤ 9 := by
    by_cases q : d ≤ 9
    · exact q
    · have : 10 * 10 ≤ d * d := Int.mul_le_mul (by omega) (by omega) (by omega) (by omega)
      omega
  obtain ⟨m, rfl⟩ := Int.eq_ofNat_of_zero_le (show 0 ≤ d by omega)
  refine h m ?_ (by exact_mod_cast hd) (by exact_mod_cast e)
  have : m = 2 ∨ m = 3 ∨ m = 4 ∨ m = 5 ∨ m = 6 ∨ m = 7 ∨ m = 8 ∨ m = 9 := by omega
  simpa using this
theorem sh_sgn {c : Nat} (h : c ∈ abc.cps.toList) : SeqAt.shaped (.list [.str (sgn c)]) = true ∧ SeqAt.shaped (.tuple [.str (sgn c)]) = true := by
  have hok : abc.cps.toList.all (fun c => PyData.canLay0 (.str (sgn c))) = true := by decide +kernel
  have h2 := List.all_eq_true.mp hok c h
  unfold SeqAt.shaped
  simp only [PyData.canLay0, PyData.canLayAll0, PyData.depth, PyData.depthAll, Bool.and_true, Bool.and_eq_true, decide_eq_true_eq] at h2 ⊢
  exact ⟨⟨h2, by first | rfl | simp [PyData.depth]⟩, ⟨h2, by first | rfl | simp [PyData.depth]⟩⟩
theorem sh_emp : SeqAt.shaped (.str "") = true := by
  unfold SeqAt.shaped
  simp only [PyData.canLay0, PyData.depth]
  decide +kernel
theorem pull0 {KF : PySem.W.Frag} {n : Int} {bag : Dat} {R : Store} {Kt : KE} {X : KX} (h0 : 0 < n) (hn : n < 1073741824) (hB : IsBag bag) (k : ∀ (k : Nat) bag', (k : Int) < n → IsBag bag' → Kt (.int k) (bag' :: R)) : sp_law_pull KF ([.cell 0, .int n] ++ []) (bag :: R) Kt X := pull_of h0 hn rfl hB k
theorem r_need_word {KF : PySem.W.Frag} {ds S K X} (h : sp_need_word KF ds S K X) (hb : belows S.length ds) (hS : belows S.length S) : u_need_word KF (endsOf S K X) (startD ["alphabet", "value"] ds) S := by
  obtain ⟨a, v, rfl, h⟩ := h
  simp only [belows] at hb
  show u_need_word KF (endsOf S K X) [some (.str a), some v] S
  unfold u_need_word
  walk_at "j"
  rcases h with ⟨z, rfl, hz, hw, k⟩ | ⟨hv, k⟩
  · refine ⟨a, .inl ⟨z, rfl, hz, ?_⟩⟩
    rw [hw]
    walk_at "j"
    exact exit_here (by simp only [below]) k
  · refine bad_of hv ?_
    walk_at "j"
    exact exitX_here (dl := [some (.str a), some v]) (by simp only [belows, below]; exact ⟨True.intro, hb.2.1, True.intro⟩) k
end DL
/-! SP: machines: promises. -/
namespace DL
open PySem L2
/-- a row of goals, as data -/
def encRow (g : List Nat) : Dat := .tup (g.map fun (n : Nat) => Dat.int (n : Int))
def isNumB (lo hi : Int) : Dat → Bool
  | .int v => decide (lo ≤ v) && decide (v ≤ hi)
  | _ => false
/-- data whose kind isinstance tells -/
def okKind (S : Store) (d : Dat) : Prop := ∃ t, tyS S d = some t ∧ t ∈ tyNames
def isRowB (w m : Nat) : Dat → Bool
  | .tup xs => decide (xs.length = w) && xs.all (isNumB 0 ((m : Int) - 1))
  | _ => false
def okRowK (S : Store) (d : Dat) : Prop := okKind S d ∧ ∀ xs, d = .tup xs → xs.length ≤ 1000000 ∧ ∀ x ∈ xs, okKind S x
def sp_is_row (K : PySem.W.Frag) : Spec := fun ds S Kt _ => ∃ (d : Dat) (w m : Nat), ds = [d, natD w, natD m] ∧ okRowK S d ∧ Kt (.bl (isRowB w m d)) S
/-- a machine's fields -/
def maNs : List Str := ["own_alphabet", "own_rows", "own_start"]
def maD (K : PySem.W.Frag) (a : Str) (g : List (List Nat)) (s : Nat) : Dat := .ins (He.ga K "Machine") maNs [.str a, .lst (g.map encRow), natD s]
def okRows (w : Nat) (g : List (List Nat)) : Prop := ∀ r ∈ g, r.length = w ∧ ∀ x ∈ r, x < g.length
structure isMa (K : PySem.W.Frag) (S : Store) (d : Dat) (a : Str) (g : List (List Nat)) (s : Nat) : Prop where
  ins : insD S d = some (He.ga K "Machine", maNs, [.str a, .lst (g.map encRow), natD s])
  al : isAlpha a = true
  rows : okRows a.length g
  pos : 0 < g.length
  most : g.length ≤ 1000
  st : s < g.length
abbrev excG (K : PySem.W.Frag) (C f : Str) (v : Dat) : Exc := ⟨He.ga K C, ["code", f], [.str C, v]⟩
abbrev excTM (K : PySem.W.Frag) (s : Str) (m : Int) : Exc := ⟨He.ga K "TooMany", ["code", "most", "subject"], [.str "TooMany", .int m, .str s]⟩
def badAlpha (S : Store) (d : Dat) : Prop := (∃ z : Str, d = .str z ∧ z.length ≤ 1000000 ∧ isAlpha z = false) ∨ notStr S d
def notSeq (S : Store) (d : Dat) : Prop := ∃ t, tyS S d = some t ∧ t ∈ tyNames ∧ t ≠ "list" ∧ t ≠ "tuple"
def notIn (S : Store) (d : Dat) (n : Nat) : Prop := (∃ v : Int, d = .int v ∧ (v < 0 ∨ (n : Int) ≤ v)) ∨ notInt S d
/-- how the making of a machine ends -/
inductive MkMa (K : PySem.W.Frag) (S : Store) (n : Nat) (Kt : KE) (X : KX) (av d sv : Dat) : Prop where
  | alpha : badAlpha S av → X (excG K "InvalidAlphabet" "given" av) S → MkMa K S n Kt X av d sv
  | noseq (z : Str) : av = .str z → z.length ≤ 1000000 → isAlpha z = true → notSeq S d → X (excG K "InvalidRows" "at" (.int 0)) S → MkMa K S n Kt X av d sv
  | empty (z : Str) : av = .str z → z.length ≤ 1000000 → isAlpha z = true → seqD S d = some [] → X (excG K "InvalidRows" "at" (.int 0)) S → MkMa K S n Kt X av d sv
  | many (z : Str) (rs : List Dat) : av = .str z → z.length ≤ 1000000 → isAlpha z = true → seqD S d = some rs → 1000 < rs.length → rs.length ≤ 1000000 → X (excTM K "states" 1000) S → MkMa K S n Kt X av d sv
  | row (z : Str) (rs : List Dat) (i : Nat) (r : Dat) : av = .str z → z.length ≤ 1000000 → isAlpha z = true → seqD S d = some rs → rs.length ≤ 1000 → (∀ x ∈ rs, okRowK S x) → rs[i]? = some r → isRowB z.length rs.length r = false → (∀ j x, j < i → rs[j]? = some x → isRowB z.length rs.length x = true) → X (excG K "InvalidRows" "at" (natD i)) S → MkMa K S n Kt X av d sv
  | start (z : Str) (g : List (List Nat)) : av = .str z → z.length ≤ 1000000 → isAlpha z = true → seqD S d = some (g.map encRow) → 0 < g.length → g.length ≤ 1000 → okRows z.length g → notIn S sv g.length → X (excG K "InvalidState" "given" sv) S → MkMa K S n Kt X av d sv
  | made (z : Str) (g : List (List Nat)) (s : Nat) : av = .str z → z.length ≤ 1000000 → isAlpha z = true → seqD S d = some (g.map encRow) → 0 < g.length → g.length ≤ 1000 → okRows z.length g → sv = natD s → s < g.length → d ≠ .cell n → Kt .non (S.set n (maD K z g s)) → MkMa K S n Kt X av d sv
def sp_Machine_init (K : PySem.W.Frag) : Spec := fun ds S Kt X => ∃ (n : Nat) (av d sv : Dat), ds = [.cell n, av, d, sv] ∧ S[n]? = some (.ins (He.ga K "Machine") [] []) ∧ MkMa K S n Kt X av d sv
def sp_Machine_need_state (K : PySem.W.Frag) : Spec := fun ds S Kt X => ∃ (d sv : Dat) (a : Str) (g : List (List Nat)) (s : Nat), ds = [d, sv] ∧ isMa K S d a g s ∧
  ((∃ q : Nat, sv = natD q ∧ q < g.length ∧ Kt .non S) ∨ (notIn S sv g.length ∧ X (excG K "InvalidState" "given" sv) S))
/-- where a word leads -/
def ledF (a : Str) (g : List (List Nat)) (s : Nat) (w : List Nat) : Nat := w.foldl (fun q c => (g.getD q []).getD (a.cps.toList.idxOf c) 0) s
def sp_Machine_led (K : PySem.W.Frag) : Spec := fun ds S Kt X => ∃ (d sv v : Dat) (a : Str) (g : List (List Nat)) (s : Nat), ds = [d, sv, v] ∧ isMa K S d a g s ∧
  ((notIn S sv g.length ∧ X (excG K "InvalidState" "given" sv) S) ∨ (∃ q : Nat, sv = natD q ∧ q < g.length ∧ ((badWord S a v ∧ X (excIW K v) S) ∨ ∃ z : Str, v = .str z ∧ z.length ≤ 1000000 ∧ isWord a z = true ∧ Kt (natD (ledF a g q z.cps.toList)) S)))
def sp_Machine_after (K : PySem.W.Frag) : Spec := fun ds S Kt X => ∃ (d v : Dat) (a : Str) (g : List (List Nat)) (s : Nat), ds = [d, v] ∧ isMa K S d a g s ∧
  ((badWord S a v ∧ X (excIW K v) S) ∨ ∃ z : Str, v = .str z ∧ z.length ≤ 1000000 ∧ isWord a z = true ∧ Kt (natD (ledF a g s z.cps.toList)) S)
/-! the law's own -/
def sp_law_goals (K : PySem.W.Frag) : Spec := fun ds S Kt _ => ∃ (b : Nat) (bag : Dat) (m w : Nat), ds = [.cell b, natD m, natD w] ∧ 0 < m ∧ m ≤ 1000 ∧ w ≤ 1000 ∧ S[b]? = some bag ∧ IsBag bag ∧ ∀ (g : List (List Nat)) bag', g.length = m → okRows w g → IsBag bag' → Kt (.lst (g.map encRow)) (S.set b bag')
def sp_law_go (K : PySem.W.Frag) : Spec := fun ds S Kt _ => ∃ (a z : Str) (g : List (List Nat)) (q : Nat), ds = [.lst (g.map encRow), .str a, natD q, .str z] ∧ okRows a.length g ∧ q < g.length ∧ isWord a z = true ∧ a.length ≤ 1000000 ∧ z.length ≤ 1000000 ∧ Kt (natD (ledF a g q z.cps.toList)) S
/-- what is no state below m -/
def numLike (m : Nat) (v : Dat) : Prop := v ∈ ([natD m, .int (-1), .non, .bl true, .bl false, .str "0", .lst [.int 0], .tup [.int 0], .int ((m : Int) + 7)] : List Dat)
def sp_law_number_like (K : PySem.W.Frag) : Spec := fun ds S Kt _ => ∃ (b : Nat) (bag : Dat) (m : Nat), ds = [.cell b, natD m] ∧ S[b]? = some bag ∧ IsBag bag ∧ ∀ v bag', numLike m v → IsBag bag' → Kt v (S.set b bag')
def sp_Machine_alphabet (K : PySem.W.Frag) : Spec := fun ds S Kt _ => ∃ (d : Dat) (a : Str) (g : List (List Nat)) (s : Nat), ds = [d] ∧ isMa K S d a g s ∧ Kt (.str a) S
def sp_Machine_start (K : PySem.W.Frag) : Spec := fun ds S Kt _ => ∃ (d : Dat) (a : Str) (g : List (List Nat)) (s : Nat), ds = [d] ∧ isMa K S d a g s ∧ Kt (natD s) S
def sp_Machine_rows (K : PySem.W.Frag) : Spec := fun ds S Kt _ => ∃ (d : Dat) (a : Str) (g : List (List Nat)) (s : Nat), ds = [d] ∧ isMa K S d a g s ∧ Kt (.cell S.length) (S ++ [.lst (g.map encRow)])
def sp_Machine_len (K : PySem.W.Frag) : Spec := fun ds S Kt _ => ∃ (d : Dat) (a : Str) (g : List (List Nat)) (s : Nat), ds = [d] ∧ isMa K S d a g s ∧ Kt (natD g.length) S
def sp_Machine_repr (K : PySem.W.Frag) : Spec := fun ds S Kt _ => ∃ (d : Dat) (a : Str) (g : List (List Nat)) (s : Nat), ds = [d] ∧ isMa K S d a g s ∧ Kt (.str (Str.append (Str.append "Machine(" (toString (g.length : Int))) " states)")) S
theorem len_is_row {K : PySem.W.Frag} {ds S Kt X} (h : sp_is_row K ds S Kt X) : ds.length = 3 := by obtain ⟨_, _, _, rfl, _⟩ := h; rfl
theorem len_Machine_init {K : PySem.W.Frag} {ds S Kt X} (h : sp_Machine_init K ds S Kt X) : ds.length = 4 := by obtain ⟨_, _, _, _, rfl, _⟩ := h; rfl
theorem len_Machine_need_state {K : PySem.W.Frag} {ds S Kt X} (h : sp_Machine_need_state K ds S Kt X) : ds.length = 2 := by obtain ⟨_, _, _, _, _, rfl, _⟩ := h; rfl
theorem len_Machine_led {K : PySem.W.Frag} {ds S Kt X} (h : sp_Machine_led K ds S Kt X) : ds.length = 3 := by obtain ⟨_, _, _, _, _, _, rfl, _⟩ := h; rfl
theorem len_Machine_after {K : PySem.W.Frag} {ds S Kt X} (h : sp_Machine_after K ds S Kt X) : ds.length = 2 := by obtain ⟨_, _, _, _, _, rfl, _⟩ := h; rfl
theorem len_law_goals {K : PySem.W.Frag} {ds S Kt X} (h : sp_law_goals K ds S Kt X) : ds.length = 3 := by obtain ⟨_, _, _, _, rfl, _⟩ := h; rfl
theorem len_law_go {K : PySem.W.Frag} {ds S Kt X} (h : sp_law_go K ds S Kt X) : ds.length = 4 := by obtain ⟨_, _, _, _, rfl, _⟩ := h; rfl
theorem len_law_number_like {K : PySem.W.Frag} {ds S Kt X} (h : sp_law_number_like K ds S Kt X) : ds.length = 2 := by obtain ⟨_, _, _, rfl, _⟩ := h; rfl
theorem len_Machine_alphabet {K : PySem.W.Frag} {ds S Kt X} (h : sp_Machine_alphabet K ds S Kt X) : ds.length = 1 := by obtain ⟨_, _, _, _, rfl, _⟩ := h; rfl
theorem len_Machine_start {K : PySem.W.Frag} {ds S Kt X} (h : sp_Machine_start K ds S Kt X) : ds.length = 1 := by obtain ⟨_, _, _, _, rfl, _⟩ := h; rfl
theorem len_Machine_rows {K : PySem.W.Frag} {ds S Kt X} (h : sp_Machine_rows K ds S Kt X) : ds.length = 1 := by obtain ⟨_, _, _, _, rfl, _⟩ := h; rfl
theorem len_Machine_len {K : PySem.W.Frag} {ds S Kt X} (h : sp_Machine_len K ds S Kt X) : ds.length = 1 := by obtain ⟨_, _, _, _, rfl, _⟩ := h; rfl
theorem len_Machine_repr {K : PySem.W.Frag} {ds S Kt X} (h : sp_Machine_repr K ds S Kt X) : ds.length = 1 := by obtain ⟨_, _, _, _, rfl, _⟩ := h; rfl
def u_is_row (K : PySem.W.Frag) : US :=
  (uRet (uAndV (uCB (gIsi K) (uCons (uVar 0) (uCons (uC (.raw (.ty "tuple"))) uNil))) (uAndV (uOp gEq (uCB gLen (uCons (uVar 0) uNil)) (uVar 1)) (uCB (gBools fun bs => bs.all id) (uCons (uLc (uSeqI (uVar 0)) [3] (uName 3) uYes (uCall (sp_is_number K) [] (uCons (uVar 3) (uCons (uC (.int 0)) (uCons (uOp gSub (uVar 2) (uC (.int 1))) uNil))))) uNil)))))
def u_Machine_init (K : PySem.W.Frag) : US :=
  (uSeq (uDrop (uCall (sp_need_alphabet K) [] (uCons (uVar 1) uNil)))
    (uSeq (uIfS (uOr (uNot (uTru (uCB (gIsi K) (uCons (uVar 2) (uCons (uTup (uCons (uC (.raw (.ty "list"))) (uCons (uC (.raw (.ty "tuple"))) uNil))) uNil))))) (uTest (uOp gEq (uCB gLen (uCons (uVar 2) uNil)) (uC (.int 0))))) (uRaise (He.ga K "InvalidRows") [("code", .c "InvalidRows"), ("at", .a 0)] 1 false (uCons (uC (.int 0)) uNil)) uNext)
    (uSeq (uIfS (uTest (uOp gGt (uCB gLen (uCons (uVar 2) uNil)) (uC (.int 1000)))) (uRaise (He.ga K "TooMany") [("code", .c "TooMany"), ("most", .a 1), ("subject", .a 0)] 2 true (uCons (uC (.str "states")) (uCons (uC (.int 1000)) uNil))) uNext)
    (uSeq (uFor (uEnK 0 (uCons (uVar 2) uNil)) (uGTup 2 (uGCons (uName 4) (uGCons (uName 5) uGNil))) (uIfS (uNot (uTru (uCall (sp_is_row K) [] (uCons (uVar 5) (uCons (uCB gLen (uCons (uVar 1) uNil)) (uCons (uCB gLen (uCons (uVar 2) uNil)) uNil)))))) (uRaise (He.ga K "InvalidRows") [("code", .c "InvalidRows"), ("at", .a 0)] 1 false (uCons (uVar 4) uNil)) uNext))
    (uSeq (uIfS (uNot (uTru (uCall (sp_is_number K) [] (uCons (uVar 3) (uCons (uC (.int 0)) (uCons (uOp gSub (uCB gLen (uCons (uVar 2) uNil)) (uC (.int 1))) uNil)))))) (uRaise (He.ga K "InvalidState") [("code", .c "InvalidState"), ("given", .a 0)] 1 false (uCons (uVar 3) uNil)) uNext)
    (uSeq (uSetF [He.ga K "Machine"] "own_alphabet" (uVar 0) (uVar 1))
    (uSeq (uSetF [He.ga K "Machine"] "own_rows" (uVar 0) (uCB gListT (uCons (uVar 2) uNil)))
    (uSetF [He.ga K "Machine"] "own_start" (uVar 0) (uVar 3)))))))))
def u_Machine_need_state (K : PySem.W.Frag) : US :=
  (uIfS (uNot (uTru (uCall (sp_is_number K) [] (uCons (uVar 1) (uCons (uC (.int 0)) (uCons (uOp gSub (uCB gLen (uCons (uFld [He.ga K "Machine"] "own_rows" (uVar 0)) uNil)) (uC (.int 1))) uNil)))))) (uRaise (He.ga K "InvalidState") [("code", .c "InvalidState"), ("given", .a 0)] 1 false (uCons (uVar 1) uNil)) uNext)
def u_Machine_led (K : PySem.W.Frag) : US :=
  (uSeq (uDrop (uMeth [(He.ga K "Machine", sp_Machine_need_state K)] "need_state" [] (uVar 0) (uCons (uVar 1) uNil)))
    (uSeq (uDrop (uCall (sp_need_word K) [] (uCons (uFld [He.ga K "Machine"] "own_alphabet" (uVar 0)) (uCons (uVar 2) uNil))))
    (uSeq (uFor (uSeqI (uVar 2)) (uName 3) (uSet 1 (uOp gIx (uOp gIx (uFld [He.ga K "Machine"] "own_rows" (uVar 0)) (uVar 1)) (uBM "str" gSIndex (uFld [He.ga K "Machine"] "own_alphabet" (uVar 0)) (uCons (uVar 3) uNil)))))
    (uRet (uVar 1)))))
def u_Machine_after (K : PySem.W.Frag) : US :=
  (uRet (uMeth [(He.ga K "Machine", sp_Machine_led K)] "led" [] (uVar 0) (uCons (uFld [He.ga K "Machine"] "own_start" (uVar 0)) (uCons (uVar 1) uNil))))
def u_law_goals (K : PySem.W.Frag) : US :=
  (uRet (uLc (uR1 (uCons (uVar 1) uNil)) [3] (uName 3) uYes (uCB gTupleC (uCons (uLc (uR1 (uCons (uVar 2) uNil)) [4] (uName 4) uYes (uCall (sp_law_pull K) [] (uCons (uVar 0) (uCons (uVar 1) uNil)))) uNil))))
def u_law_go (K : PySem.W.Frag) : US :=
  (uSeq (uFor (uSeqI (uVar 3)) (uName 4) (uSet 2 (uOp gIx (uOp gIx (uVar 0) (uVar 2)) (uBM "str" gSIndex (uVar 1) (uCons (uVar 4) uNil)))))
    (uRet (uVar 2)))
def u_law_number_like (K : PySem.W.Frag) : US :=
  (uRet (uCall (sp_law_of K) [] (uCons (uVar 0) (uCons (uLst (uCons (uVar 1) (uCons (uUn gNeg (uC (.int 1))) (uCons (uC .non) (uCons (uC (.bl true)) (uCons (uC (.bl false)) (uCons (uC (.str "0")) (uCons (uLst (uCons (uC (.int 0)) uNil)) (uCons (uTup (uCons (uC (.int 0)) uNil)) (uCons (uOp gAdd (uVar 1) (uC (.int 7))) uNil)))))))))) uNil))))
def u_Machine_alphabet (K : PySem.W.Frag) : US :=
  (uRet (uFld [He.ga K "Machine"] "own_alphabet" (uVar 0)))
def u_Machine_start (K : PySem.W.Frag) : US :=
  (uRet (uFld [He.ga K "Machine"] "own_start" (uVar 0)))
def u_Machine_rows (K : PySem.W.Frag) : US :=
  (uRet (uCB gListC (uCons (uFld [He.ga K "Machine"] "own_rows" (uVar 0)) uNil)))
def u_Machine_len (K : PySem.W.Frag) : US :=
  (uRet (uCB gLen (uCons (uFld [He.ga K "Machine"] "own_rows" (uVar 0)) uNil)))
def u_Machine_repr (K : PySem.W.Frag) : US :=
  (uRet (uJoin [(uC (.str "Machine(")), (uUn gFmt (uCB gLen (uCons (uFld [He.ga K "Machine"] "own_rows" (uVar 0)) uNil))), (uC (.str " states)"))]))
end DL
namespace DL
open PySem L2
local macro_rules | `(tactic| walk_at "e1") => `(tactic| with_reducible first
  | refine x_var rfl ?_ | refine x_c ?_ | refine x_op ?_ | refine x_un ?_ | refine x_nil ?_ | refine x_cons ?_ | refine x_tup ?_ | refine x_lst ?_ | refine x_lstC ?_ | refine x_cb ?_ | refine x_call ?_ | refine x_if ?_
  | refine x_test ?_ | refine x_and ?_ | refine x_or ?_ | refine x_not ?_ | refine x_tru ?_ | refine x_andV ?_ | refine x_orV ?_ | refine x_notV ?_ | refine x_yes ?_ | refine x_chain ?_
  | refine x_bm ?_ | refine x_bm0 ?_ | refine x_part ?_ | refine x_no ?_ | refine x_sl ?_ | refine x_seqI ?_ | refine x_r1 ?_ | refine x_r2 ?_ | refine x_z ?_ | refine x_lc ?_ | refine x_lcC ?_ | refine x_lcW ?_ | refine x_fld ?_ | refine x_meth ?_ | refine x_prop ?_ | refine x_make ?_ | refine x_en ?_ | refine x_makeK ?_ | refine x_give ?_ | refine x_lam ?_)
local macro_rules | `(tactic| walk_at "s1") => `(tactic| with_reducible first
  | refine x_seq ?_ | refine x_next ?_ | refine x_break ?_ | refine x_cont ?_ | refine x_drop ?_ | refine x_ret ?_ | refine x_retN ?_ | refine x_ifS ?_ | refine x_set ?_ | refine x_asg ?_ | refine x_par ?_ | refine x_gsub ?_ | refine x_gnil ?_ | refine x_gcons ?_ | refine x_setF ?_ | refine x_for ?_ | refine x_raise ?_ | refine x_rz1 ?_ | refine x_rz0 ?_)
local macro_rules | `(tactic| walk_at "g1") => `(tactic| first
  | with_reducible refine x_iteT ?_ | with_reducible refine x_iteF ?_ | with_reducible refine x_tN ?_ | with_reducible refine x_tB ?_ | with_reducible refine x_tI ?_ | with_reducible refine x_tT ?_ | with_reducible refine x_tL ?_
  | with_reducible refine x_addI ?_ | with_reducible refine x_sub ?_ | with_reducible refine x_ltI ?_ | with_reducible refine x_leI ?_ | with_reducible refine x_gtI ?_ | with_reducible refine x_geI ?_ | with_reducible refine x_ltS ?_ | with_reducible refine x_leS ?_ | with_reducible refine x_gtS ?_ | with_reducible refine x_geS ?_
  | with_reducible refine x_eqI ?_ | with_reducible refine x_eqS ?_ | with_reducible refine x_eqB ?_ | with_reducible refine x_neI ?_ | with_reducible refine x_neS ?_ | with_reducible refine x_neB ?_ | with_reducible refine x_neg ?_
  | with_reducible refine x_inS ?_ | with_reducible refine x_notinS ?_ | with_reducible refine x_intI ?_ | with_reducible refine x_intB ?_ | with_reducible refine x_abs ?_ | with_reducible refine x_slL ?_ | with_reducible refine x_slT ?_ | with_reducible refine x_min2 ?_ | with_reducible refine x_max2 ?_
  | ((with_reducible refine x_is ?_ ?_); · rfl) | ((with_reducible refine x_isnot ?_ ?_); · rfl) | ((with_reducible refine x_isiD ?_ ?_ ?_); (next => rfl); (next => decide)) | ((with_reducible refine x_isiD2 ?_ ?_ ?_ ?_); (next => rfl); (next => decide); (next => decide)) | ((with_reducible refine x_name ?_ ?_); · exact of_decide_eq_true rfl) | ((with_reducible refine x_gtup ?_ ?_); · rfl))
local macro_rules | `(tactic| walk_at "d") => `(tactic| repeat (first | walk_at "e1" | walk_at "s1" | walk_at "g1" | ((with_reducible refine x_putL ?_ ?_); · rfl) | ((with_reducible refine x_szL ?_ ?_); · rfl) | dsimp only [List.set_cons_succ, List.set_cons_zero]))
local macro_rules | `(tactic| walk_at "i") => `(tactic| repeat (first | walk_at "e1" | walk_at "s1" | walk_at "g1" | ((with_reducible refine x_putL ?_ ?_); · rfl) | ((with_reducible refine x_szL ?_ ?_); · rfl) | ((with_reducible refine x_iteT2 ?_ ?_); · rfl) | ((with_reducible refine x_iteF2 ?_ ?_); · rfl) | dsimp only [List.set_cons_succ, List.set_cons_zero]))
local macro_rules | `(tactic| walk_at "g2") => `(tactic| with_reducible first | refine x_ixt0 ?_ | refine x_ixt1 ?_ | refine x_ixt2 ?_ | refine x_ixt3 ?_ | refine x_lenT ?_)
local macro_rules | `(tactic| walk_at "j") => `(tactic| repeat (first | walk_at "e1" | walk_at "s1" | walk_at "g1" | walk_at "g2" | ((with_reducible refine x_inTi ?_ ?_); · rfl) | ((with_reducible refine x_inTn ?_ ?_); · rfl) | ((with_reducible refine x_putL ?_ ?_); · rfl) | ((with_reducible refine x_szL ?_ ?_); · rfl) | ((with_reducible refine x_iteT2 ?_ ?_); · rfl) | ((with_reducible refine x_iteF2 ?_ ?_); · rfl) | dsimp only [List.set_cons_succ, List.set_cons_zero]))
theorem isB_tup {t : String} : isB t "tuple" = decide (t = "tuple") := by
  unfold isB
  cases h : decide (t = "tuple") with
  | true => simp [of_decide_eq_true h]
  | false => simp [of_decide_eq_false h]
theorem ty_tup {S : Store} {d : Dat} (h : tyS S d = some "tuple") : ∃ xs, d = .tup xs := by
  cases d with
  | tup xs => exact ⟨xs, rfl⟩
  | cell n =>
    have h : (match S[n]? with
      | some (.lst _) => some "list"
      | some (.dct _ _) => some "dict"
      | _ => none) = some "tuple" := h
    split at h <;> simp at h
  | _ => simp [tyS] at h
theorem ty_int {S : Store} {d : Dat} (h : tyS S d = some "int") : ∃ v, d = .int v := by
  cases d with
  | int v => exact ⟨v, rfl⟩
  | cell n =>
    have h : (match S[n]? with
      | some (.lst _) => some "list"
      | some (.dct _ _) => some "dict"
      | _ => none) = some "int" := h
    split at h <;> simp at h
  | _ => simp [tyS] at h
section
variable {dl : Env'} {S : Store} {ug : UG} {tt : UT} {ue : UE} {P : Store → Prop} {own : List Nat}
theorem lc_I (xs : List Dat) {f : Dat → Dat} {G : List Dat → Store → Prop} (hP : P S) (hsz : xs.length ≤ sizeLine)
    (hs : ∀ a, a ∈ xs → ∀ (Kt : Dat → Store → Prop) (Kf : Store → Prop), Kt (f a) S →
      ug a (wipeD dl own) S (fun dl2 S3 => tt dl2 S3 (fun b S4 => if b = true then ue dl2 S4 Kt XF0 else Kf S4) XF0) XF0)
    (k : G (xs.map f) S) : ∃ I : Nat → List Dat → Store → Prop, I 0 [] S ∧
  (∀ (j : Nat) d acc S2, xs[j]? = some d → I j acc S2 → P S2 ∧ acc.length < sizeLine ∧ ug d (wipeD dl own) S2 (fun dl2 S3 => tt dl2 S3 (fun b S4 => if b = true then ue dl2 S4 (fun y S5 => I (j + 1) (acc ++ [y]) S5) XF0 else I (j + 1) acc S4) XF0) XF0) ∧
  ∀ acc S2, I xs.length acc S2 → P S2 ∧ G acc S2 := by
  have := lc_M xs id (f := f) (G := G) (dl := dl) (S := S) (ug := ug) (tt := tt) (ue := ue) (P := P) (own := own) hP hsz hs k
  simp only [List.map_id] at this
  exact this
end
/-- is_number of any data whose kind is told -/
theorem num_of {KF : PySem.W.Frag} {S : Store} {d : Dat} {lo hi : Int} {Kt : KE} {X : KX} (h : okKind S d) (k : Kt (.bl (isNumB lo hi d)) S) : sp_is_number KF [d, .int lo, .int hi] S Kt X := by
  obtain ⟨t, ht, hm⟩ := h
  by_cases e : t = "int"
  · subst e
    obtain ⟨v, rfl⟩ := ty_int ht
    exact .inl ⟨v, lo, hi, rfl, k⟩
  · refine .inr (.inr ⟨d, lo, _, rfl, ⟨t, ht, e, hm⟩, ?_⟩)
    have : isNumB lo hi d = false := by
      cases d with
      | int v => simp [tyS] at ht; exact (e ht.symm).elim
      | _ => rfl
    rw [this] at k
    exact k
theorem notIn_num {KF : PySem.W.Frag} {S : Store} {d : Dat} {n : Nat} {Kt : KE} {X : KX} (h : notIn S d n) (k : Kt (.bl false) S) : sp_is_number KF [d, .int 0, .int ((n : Int) - 1)] S Kt X := by
  rcases h with ⟨v, rfl, hv⟩ | hn
  · refine .inl ⟨v, 0, _, rfl, ?_⟩
    rw [show (decide ((0 : Int) ≤ v) && decide (v ≤ (n : Int) - 1)) = false by simp; omega]
    exact k
  · exact .inr (.inr ⟨d, 0, _, rfl, hn, k⟩)
theorem r_is_row {KF : PySem.W.Frag} {ds S K X} (h : sp_is_row KF ds S K X) (hb : belows S.length ds) (hS : belows S.length S) : u_is_row KF (endsOf S K X) (startD ["value", "width", "many", "state"] ds) S := by
  obtain ⟨d, w, m, rfl, ⟨⟨t, ht, hm⟩, hx⟩, k⟩ := h
  have szl : sizeLine = 16777216 := rfl
  show u_is_row KF (endsOf S K X) [some d, some (natD w), some (natD m), none] S
  have fin : ∀ b, b = isRowB w m d → (endsOf S K X).rt (.bl b) S := fun b e => by subst e; exact exit_here (by simp only [below]) k
  unfold u_is_row
  walk_at "j"
  refine x_isi ht (by decide) ?_
  rw [isB_tup]
  walk_at "j"
  by_cases e : t = "tuple"
  · subst e
    obtain ⟨xs, rfl⟩ := ty_tup ht
    obtain ⟨hl, hk⟩ := hx xs rfl
    refine x_iteT2 (decide_eq_true rfl) ?_
    walk_at "j"
    refine x_ite (fun e => ?_) (fun e => ?_)
    · have e : (xs.length : Int) = (w : Int) := of_decide_eq_true e
      walk_at "j"
      refine ⟨_, rfl, ?_⟩
      refine' lc_I xs rfl (by omega) (f := fun x => .bl (isNumB 0 ((m : Int) - 1) x)) ?hs ?k
      case hs =>
        intro x hx2 Kt Kf hk2
        dsimp only [wipeD, List.set_cons_succ, List.set_cons_zero]
        walk_at "j"
        exact num_of (hk x hx2) hk2
      case k =>
        walk_at "j"
        refine x_allB ?_
        refine fin _ ?_
        show _ = (decide (xs.length = w) && _)
        rw [decide_eq_true (show xs.length = w by omega)]; rfl
    · have e : ¬ (xs.length : Int) = (w : Int) := of_decide_eq_false e
      walk_at "j"
      refine fin _ ?_
      show decide _ = (decide (xs.length = w) && _)
      rw [decide_eq_false (show ¬ xs.length = w by omega), decide_eq_false e]; rfl
  · refine x_iteF2 (decide_eq_false e) ?_
    walk_at "j"
    rw [decide_eq_false e]
    refine fin _ ?_
    cases d with
    | tup xs => simp [tyS] at ht; exact (e ht.symm).elim
    | _ => rfl
theorem ints_kind {S : Store} (g : List Nat) : ∀ x ∈ g.map (fun (n : Nat) => Dat.int (n : Int)), okKind S x := fun x hx => by
  obtain ⟨n, _, rfl⟩ := List.mem_map.mp hx
  exact ⟨"int", rfl, by decide⟩
theorem row_kind {S : Store} {g : List Nat} (h : g.length ≤ 1000000) : okRowK S (encRow g) := ⟨⟨"tuple", rfl, by decide⟩, fun xs e => by
  cases e
  exact ⟨by rw [List.length_map]; exact h, ints_kind g⟩⟩
theorem row_ok {w m : Nat} {g : List Nat} (hl : g.length = w) (hx : ∀ x ∈ g, x < m) : isRowB w m (encRow g) = true := by
  unfold isRowB encRow
  simp only [List.length_map, hl, decide_true, Bool.true_and]
  refine List.all_eq_true.mpr fun x h => ?_
  obtain ⟨n, hn, rfl⟩ := List.mem_map.mp h
  have := hx n hn
  unfold isNumB
  simp; omega
theorem nats_below {n : Nat} (g : List Nat) : belows n (g.map fun (n : Nat) => Dat.int (n : Int)) := by
  rw [show (g.map fun (n : Nat) => Dat.int (n : Int)) = (g.map fun (n : Nat) => (n : Int)).map Dat.int by rw [List.map_map]; rfl]
  exact below_ints _
theorem rows_below {n : Nat} : ∀ g : List (List Nat), belows n (g.map encRow)
  | [] => by simp only [List.map_nil, belows]
  | r :: g => by simp only [List.map_cons, belows, encRow, below]; exact ⟨nats_below r, rows_below g⟩
theorem ma_below {KF : PySem.W.Frag} {n : Nat} {a : Str} {g : List (List Nat)} {s : Nat} : below n (maD KF a g s) := by
  unfold maD
  simp only [below, belows, and_true, true_and]
  exact rows_below g
end DL
namespace DL
open PySem L2
local macro_rules | `(tactic| walk_at "e1") => `(tactic| with_reducible first
  | refine x_var rfl ?_ | refine x_c ?_ | refine x_op ?_ | refine x_un ?_ | refine x_nil ?_ | refine x_cons ?_ | refine x_tup ?_ | refine x_lst ?_ | refine x_lstC ?_ | refine x_cb ?_ | refine x_call ?_ | refine x_if ?_
  | refine x_test ?_ | refine x_and ?_ | refine x_or ?_ | refine x_not ?_ | refine x_tru ?_ | refine x_andV ?_ | refine x_orV ?_ | refine x_notV ?_ | refine x_yes ?_ | refine x_chain ?_
  | refine x_bm ?_ | refine x_bm0 ?_ | refine x_part ?_ | refine x_no ?_ | refine x_sl ?_ | refine x_seqI ?_ | refine x_r1 ?_ | refine x_r2 ?_ | refine x_z ?_ | refine x_lc ?_ | refine x_lcC ?_ | refine x_lcW ?_ | refine x_fld ?_ | refine x_meth ?_ | refine x_prop ?_ | refine x_make ?_ | refine x_en ?_ | refine x_makeK ?_ | refine x_give ?_ | refine x_lam ?_)
local macro_rules | `(tactic| walk_at "s1") => `(tactic| with_reducible first
  | refine x_seq ?_ | refine x_next ?_ | refine x_break ?_ | refine x_cont ?_ | refine x_drop ?_ | refine x_ret ?_ | refine x_retN ?_ | refine x_ifS ?_ | refine x_set ?_ | refine x_asg ?_ | refine x_par ?_ | refine x_gsub ?_ | refine x_gnil ?_ | refine x_gcons ?_ | refine x_setF ?_ | refine x_for ?_ | refine x_raise ?_ | refine x_rz1 ?_ | refine x_rz0 ?_)
local macro_rules | `(tactic| walk_at "g1") => `(tactic| first
  | with_reducible refine x_iteT ?_ | with_reducible refine x_iteF ?_ | with_reducible refine x_tN ?_ | with_reducible refine x_tB ?_ | with_reducible refine x_tI ?_ | with_reducible refine x_tT ?_ | with_reducible refine x_tL ?_
  | with_reducible refine x_addI ?_ | with_reducible refine x_sub ?_ | with_reducible refine x_ltI ?_ | with_reducible refine x_leI ?_ | with_reducible refine x_gtI ?_ | with_reducible refine x_geI ?_ | with_reducible refine x_ltS ?_ | with_reducible refine x_leS ?_ | with_reducible refine x_gtS ?_ | with_reducible refine x_geS ?_
  | with_reducible refine x_eqI ?_ | with_reducible refine x_eqS ?_ | with_reducible refine x_eqB ?_ | with_reducible refine x_neI ?_ | with_reducible refine x_neS ?_ | with_reducible refine x_neB ?_ | with_reducible refine x_neg ?_
  | with_reducible refine x_inS ?_ | with_reducible refine x_notinS ?_ | with_reducible refine x_intI ?_ | with_reducible refine x_intB ?_ | with_reducible refine x_abs ?_ | with_reducible refine x_slL ?_ | with_reducible refine x_slT ?_ | with_reducible refine x_min2 ?_ | with_reducible refine x_max2 ?_
  | ((with_reducible refine x_is ?_ ?_); · rfl) | ((with_reducible refine x_isnot ?_ ?_); · rfl) | ((with_reducible refine x_isiD ?_ ?_ ?_); (next => rfl); (next => decide)) | ((with_reducible refine x_isiD2 ?_ ?_ ?_ ?_); (next => rfl); (next => decide); (next => decide)) | ((with_reducible refine x_name ?_ ?_); · exact of_decide_eq_true rfl) | ((with_reducible refine x_gtup ?_ ?_); · rfl))
local macro_rules | `(tactic| walk_at "d") => `(tactic| repeat (first | walk_at "e1" | walk_at "s1" | walk_at "g1" | ((with_reducible refine x_putL ?_ ?_); · rfl) | ((with_reducible refine x_szL ?_ ?_); · rfl) | dsimp only [List.set_cons_succ, List.set_cons_zero]))
local macro_rules | `(tactic| walk_at "i") => `(tactic| repeat (first | walk_at "e1" | walk_at "s1" | walk_at "g1" | ((with_reducible refine x_putL ?_ ?_); · rfl) | ((with_reducible refine x_szL ?_ ?_); · rfl) | ((with_reducible refine x_iteT2 ?_ ?_); · rfl) | ((with_reducible refine x_iteF2 ?_ ?_); · rfl) | dsimp only [List.set_cons_succ, List.set_cons_zero]))
local macro_rules | `(tactic| walk_at "g2") => `(tactic| with_reducible first | refine x_ixt0 ?_ | refine x_ixt1 ?_ | refine x_ixt2 ?_ | refine x_ixt3 ?_ | refine x_lenT ?_)
local macro_rules | `(tactic| walk_at "j") => `(tactic| repeat (first | walk_at "e1" | walk_at "s1" | walk_at "g1" | walk_at "g2" | ((with_reducible refine x_inTi ?_ ?_); · rfl) | ((with_reducible refine x_inTn ?_ ?_); · rfl) | ((with_reducible refine x_putL ?_ ?_); · rfl) | ((with_reducible refine x_szL ?_ ?_); · rfl) | ((with_reducible refine x_iteT2 ?_ ?_); · rfl) | ((with_reducible refine x_iteF2 ?_ ?_); · rfl) | dsimp only [List.set_cons_succ, List.set_cons_zero]))
theorem rows_at {g : List (List Nat)} {i : Nat} {r : List Nat} (h : g[i]? = some r) : (g.map encRow)[i]? = some (encRow r) := by rw [List.getElem?_map, h]; rfl
theorem enum0 {α : Type} (e : α → Dat) (xs : List α) : enumD 0 (xs.map e) = (xs.zipIdx 0).map fun p => .tup [.int ((p.2 : Nat) : Int), e p.1] := enumD_map e xs 0
theorem enumI (xs : List Dat) : enumD 0 xs = (xs.zipIdx 0).map fun p => .tup [.int ((p.2 : Nat) : Int), p.1] := by
  have := enumD_map id xs 0
  rw [List.map_id] at this
  exact this
theorem zipI_split {α : Type} {ls : List α} {pre rest : List (α × Nat)} {l : α} {i : Nat} (h : ls.zipIdx 0 = pre ++ (l, i) :: rest) : i = pre.length ∧ ls[i]? = some l := by
  have h1 : (ls.zipIdx 0)[pre.length]? = some (l, i) := by rw [h]; simp
  rw [List.getElem?_zipIdx] at h1
  cases e : ls[pre.length]? with
  | none => rw [e] at h1; cases h1
  | some l' =>
    rw [e] at h1
    simp at h1
    obtain ⟨rfl, rfl⟩ := h1
    exact ⟨rfl, e⟩
theorem seq_ty {S : Store} {d : Dat} {rs : List Dat} (h : seqD S d = some rs) : ∃ t, tyS S d = some t ∧ (t = "list" ∨ t = "tuple") := by
  cases d with
  | tup xs => exact ⟨_, rfl, .inr rfl⟩
  | lst xs => exact ⟨_, rfl, .inl rfl⟩
  | cell n =>
    cases e : S[n]? with
    | none => simp only [seqD, e] at h; cases h
    | some c =>
      cases c with
      | lst xs => exact ⟨"list", by simp only [tyS, e], .inl rfl⟩
      | _ => simp only [seqD, e] at h; cases h
  | _ => simp only [seqD] at h; cases h
theorem isi_seq {KF : PySem.W.Frag} {S : Store} {K : KE} {d : Dat} {rs : List Dat} (h : seqD S d = some rs) (k : K (.bl true) S) : gIsi KF [d, .tup [.raw (.ty "list"), .raw (.ty "tuple")]] S K := by
  obtain ⟨t, ht, hh⟩ := seq_ty h
  refine x_isi2 ht (by decide) (by decide) ?_
  rcases hh with rfl | rfl <;> exact k
theorem seq_draw {S : Store} {d : Dat} {rs : List Dat} (h : seqD S d = some rs) : drawD S d = some rs := by
  cases d with
  | str z => cases h
  | _ => exact h
theorem r_Machine_init {KF : PySem.W.Frag} {ds S K X} (h : sp_Machine_init KF ds S K X) (hb : belows S.length ds) (hS : belows S.length S) : u_Machine_init KF (endsOf S K X) (startD ["self", "alphabet", "rows", "start", "at", "row"] ds) S := by
  obtain ⟨n, av, d, sv, rfl, hn, h⟩ := h
  have szl : sizeLine = 16777216 := rfl
  have hnl := (List.getElem?_eq_some_iff.mp hn).1
  simp only [belows] at hb
  obtain ⟨hb0, hb1, hb2, hb3, _⟩ := hb
  show u_Machine_init KF (endsOf S K X) [some (.cell n), some av, some d, some sv, none, none] S
  have ex : ∀ {C f : Str} {v : Dat} {dl : Env'}, below S.length v → X (excG KF C f v) S → (endsOf S K X).ex (excG KF C f v) dl S := fun hv k => exitX_here (dl := []) (by simp only [belows, below]; exact ⟨True.intro, hv, True.intro⟩) k
  have exT : ∀ {s : Str} {m : Int} {dl : Env'}, X (excTM KF s m) S → (endsOf S K X).ex (excTM KF s m) dl S := fun k => exitX_here (dl := []) (by simp only [belows, below, and_true]) k
  unfold u_Machine_init
  walk_at "j"
  cases h with
  | alpha ha k =>
    refine ⟨_, rfl, .inr ⟨ha, ?_⟩⟩
    exact ex hb1 k
  | noseq z e hz hal hs k =>
    subst e
    obtain ⟨t, ht, htn, h1, h2⟩ := hs
    refine ⟨_, rfl, .inl ⟨z, rfl, hz, hal, ?_⟩⟩
    walk_at "j"
    refine x_isi2 ht (by decide) (by decide) ?_
    rw [show (isB t "list" || isB t "tuple") = false by simp [isB, h1, h2]]
    walk_at "j"
    exact ex (by simp only [below]) k
  | empty z e hz hal hs k =>
    subst e
    refine ⟨_, rfl, .inl ⟨z, rfl, hz, hal, ?_⟩⟩
    walk_at "j"
    refine isi_seq hs ?_
    walk_at "j"
    refine x_lenL hs ?_
    walk_at "j"
    exact ex (by simp only [below]) k
  | many z rs e hz hal hs hl hl2 k =>
    subst e
    refine ⟨_, rfl, .inl ⟨z, rfl, hz, hal, ?_⟩⟩
    walk_at "j"
    have fin : ∀ {dl : Env'} {D : DEnds}, D.ex = (endsOf S K X).ex → D.ex (excTM KF "states" 1000) dl S := fun e => by rw [e]; exact exT k
    refine isi_seq hs ?_
    walk_at "j"
    refine x_lenL hs ?_
    walk_at "j"
    refine x_iteF2 (decide_eq_false (by omega)) ?_
    walk_at "j"
    refine x_lenL hs ?_
    walk_at "j"
    refine x_iteT2 (decide_eq_true (by omega)) ?_
    walk_at "j"
    exact x_rz2 (by decide) (fin rfl)
  | row z rs i r e hz hal hs hl hk hi hw hlow k =>
    subst e
    have hil := (List.getElem?_eq_some_iff.mp hi).1
    refine ⟨_, rfl, .inl ⟨z, rfl, hz, hal, ?_⟩⟩
    walk_at "j"
    refine isi_seq hs ?_
    walk_at "j"
    refine x_lenL (hs) ?_
    walk_at "j"
    refine x_iteF2 (decide_eq_false (by omega)) ?_
    walk_at "j"
    refine x_lenL (hs) ?_
    walk_at "j"
    refine x_iteF2 (decide_eq_false (by omega)) ?_
    walk_at "j"
    refine x_enK ?_
    walk_at "j"
    refine ⟨_, seq_draw hs, ?_⟩
    rw [enumI]
    refine for_T _ _ (fun pre dl1 S2 => S2 = S ∧ pre.length ≤ i ∧ ∃ x4 x5, dl1 = [some (.cell n), some (.str z), some d, some sv, x4, x5]) ?_ ?_ ?_ ?_
    · exact ⟨rfl, Nat.zero_le _, _, _, rfl⟩
    · rintro _ _ _ ⟨rfl, _⟩; exact seq_draw hs
    · rintro pre ⟨r', j⟩ rest dl1 S2 hx ⟨rfl, hp, x4, x5, rfl⟩
      obtain ⟨rfl, hj⟩ := zipI_split hx
      walk_at "j"
      refine x_lenS (by omega) ?_
      walk_at "j"
      refine x_lenL (hs) ?_
      walk_at "j"
      refine ⟨r', z.length, rs.length, rfl, hk _ (List.mem_of_getElem? hj), ?_⟩
      by_cases hji : pre.length < i
      · rw [hlow _ _ hji hj]
        walk_at "j"
        exact .inl ⟨rfl, by rw [List.length_append, List.length_singleton]; omega, _, _, rfl⟩
      · have : pre.length = i := by omega
        rw [this, hi] at hj
        injection hj with hj
        rw [← hj, hw]
        walk_at "j"
        rw [this]
        exact ex (by simp only [below]) k
    · rintro dl1 S2 ⟨rfl, hp, _⟩
      rw [List.length_zipIdx] at hp
      omega
  | start z g e hz hal hs h0 hl hok hni k =>
    subst e
    refine ⟨_, rfl, .inl ⟨z, rfl, hz, hal, ?_⟩⟩
    walk_at "j"
    refine isi_seq hs ?_
    walk_at "j"
    refine x_lenL (hs) ?_
    walk_at "j"
    rw [List.length_map]
    refine x_iteF2 (decide_eq_false (by omega)) ?_
    walk_at "j"
    refine x_lenL (hs) ?_
    walk_at "j"
    rw [List.length_map]
    refine x_iteF2 (decide_eq_false (by omega)) ?_
    walk_at "j"
    refine x_enK ?_
    walk_at "j"
    refine ⟨_, seq_draw hs, ?_⟩
    rw [enum0]
    refine for_T _ _ (fun pre dl1 S2 => S2 = S ∧ ∃ x4 x5, dl1 = [some (.cell n), some (.str z), some d, some sv, x4, x5]) ?_ ?_ ?_ ?_
    · exact ⟨rfl, _, _, rfl⟩
    · rintro _ _ _ ⟨rfl, _⟩; exact seq_draw hs
    · rintro pre ⟨r', j⟩ rest dl1 S2 hx ⟨rfl, x4, x5, rfl⟩
      obtain ⟨rfl, hj⟩ := zipI_split hx
      obtain ⟨hr1, hr2⟩ := hok r' (List.mem_of_getElem? hj)
      walk_at "j"
      refine x_lenS (by omega) ?_
      walk_at "j"
      refine x_lenL (hs) ?_
      walk_at "j"
      rw [List.length_map]
      refine ⟨encRow r', z.length, g.length, rfl, row_kind (by omega), ?_⟩
      rw [row_ok hr1 hr2]
      walk_at "j"
      exact .inl ⟨rfl, _, _, rfl⟩
    · rintro dl1 S2 ⟨rfl, x4, x5, rfl⟩
      walk_at "j"
      refine x_lenL (hs) ?_
      walk_at "j"
      rw [List.length_map]
      refine notIn_num hni ?_
      walk_at "j"
      exact ex hb3 k
  | made z g s e hz hal hs h0 hl hok e2 hsl hdn k =>
    subst e
    subst e2
    have hset : ∀ c, seqD (S.set n c) d = some (g.map encRow) := fun c => by
      cases d with
      | cell m =>
        have hm : n ≠ m := fun z => hdn (by rw [z])
        simp only [seqD, List.getElem?_set_ne hm]
        exact hs
      | _ => exact hs
    refine ⟨_, rfl, .inl ⟨z, rfl, hz, hal, ?_⟩⟩
    walk_at "j"
    refine isi_seq hs ?_
    walk_at "j"
    refine x_lenL (hs) ?_
    walk_at "j"
    rw [List.length_map]
    refine x_iteF2 (decide_eq_false (by omega)) ?_
    walk_at "j"
    refine x_lenL (hs) ?_
    walk_at "j"
    rw [List.length_map]
    refine x_iteF2 (decide_eq_false (by omega)) ?_
    walk_at "j"
    refine x_enK ?_
    walk_at "j"
    refine ⟨_, seq_draw hs, ?_⟩
    rw [enum0]
    refine for_T _ _ (fun pre dl1 S2 => S2 = S ∧ ∃ x4 x5, dl1 = [some (.cell n), some (.str z), some d, some (natD s), x4, x5]) ?_ ?_ ?_ ?_
    · exact ⟨rfl, _, _, rfl⟩
    · rintro _ _ _ ⟨rfl, _⟩; exact seq_draw hs
    · rintro pre ⟨r', j⟩ rest dl1 S2 hx ⟨rfl, x4, x5, rfl⟩
      obtain ⟨rfl, hj⟩ := zipI_split hx
      obtain ⟨hr1, hr2⟩ := hok r' (List.mem_of_getElem? hj)
      walk_at "j"
      refine x_lenS (by omega) ?_
      walk_at "j"
      refine x_lenL (hs) ?_
      walk_at "j"
      rw [List.length_map]
      refine ⟨encRow r', z.length, g.length, rfl, row_kind (by omega), ?_⟩
      rw [row_ok hr1 hr2]
      walk_at "j"
      exact .inl ⟨rfl, _, _, rfl⟩
    · rintro dl1 S2 ⟨rfl, x4, x5, rfl⟩
      walk_at "j"
      refine x_lenL (hs) ?_
      walk_at "j"
      rw [List.length_map]
      refine .inl ⟨_, _, _, rfl, ?_⟩
      rw [show (decide ((0 : Int) ≤ (s : Int)) && decide ((s : Int) ≤ (g.length : Int) - 1)) = true by simp; omega]
      walk_at "j"
      refine ⟨n, _, [], [], rfl, hn, List.mem_cons_self, by decide, ?_⟩
      walk_at "j"
      refine x_list (hset _) ?_
      walk_at "j"
      refine ⟨n, _, ["own_alphabet"], [.str z], rfl, by rw [List.getElem?_set_self hnl]; rfl, List.mem_cons_self, by decide, ?_⟩
      rw [List.set_set]
      walk_at "j"
      refine ⟨n, _, ["own_alphabet", "own_rows"], [.str z, .lst (g.map encRow)], rfl, by rw [List.getElem?_set_self hnl]; rfl, List.mem_cons_self, by decide, ?_⟩
      rw [List.set_set]
      show ExitTo S2 K .non (S2.set n (maD KF z g s))
      exact exit_set0 hS ma_below (by simp only [below]) k
theorem r_Machine_need_state {KF : PySem.W.Frag} {ds S K X} (h : sp_Machine_need_state KF ds S K X) (hb : belows S.length ds) (hS : belows S.length S) : u_Machine_need_state KF (endsOf S K X) (startD ["self", "state"] ds) S := by
  obtain ⟨d, sv, a, g, s, rfl, ma, h⟩ := h
  simp only [belows] at hb
  have h0 := ma.pos
  show u_Machine_need_state KF (endsOf S K X) [some d, some sv] S
  unfold u_Machine_need_state
  walk_at "j"
  refine ⟨_, _, _, .lst (g.map encRow), List.mem_cons_self, ma.ins, rfl, ?_⟩
  walk_at "j"
  refine x_lenL rfl ?_
  walk_at "j"
  rw [List.length_map]
  rcases h with ⟨q, rfl, hq, k⟩ | ⟨hn, k⟩
  · refine .inl ⟨_, _, _, rfl, ?_⟩
    rw [show (decide ((0 : Int) ≤ (q : Int)) && decide ((q : Int) ≤ (g.length : Int) - 1)) = true by simp; omega]
    walk_at "j"
    exact exit_here (by simp only [below]) k
  · refine notIn_num hn ?_
    walk_at "j"
    exact exitX_here (dl := []) (by simp only [belows, below]; exact ⟨True.intro, hb.2.1, True.intro⟩) k
theorem led_lt {a : Str} {g : List (List Nat)} (ok : okRows a.length g) : ∀ (w : List Nat) (q : Nat), (∀ c ∈ w, c ∈ a.cps.toList) → q < g.length → ledF a g q w < g.length
  | [], q, _, h => h
  | c :: w, q, hw, h => by
    show ledF a g ((g.getD q []).getD (a.cps.toList.idxOf c) 0) w < g.length
    refine led_lt ok w _ (fun x hx => hw x (List.mem_cons_of_mem _ hx)) ?_
    obtain ⟨h1, h2⟩ := ok g[q] (List.getElem_mem h)
    have hi : a.cps.toList.idxOf c < g[q].length := by
      rw [h1, ← cps_len]; exact List.idxOf_lt_length_iff.mpr (hw c List.mem_cons_self)
    have e : (g.getD q []).getD (a.cps.toList.idxOf c) 0 = g[q][a.cps.toList.idxOf c] := by simp [List.getD, List.getElem?_eq_getElem h, List.getElem?_eq_getElem hi]
    rw [e]
    exact h2 _ (List.getElem_mem hi)
theorem led_snoc (a : Str) (g : List (List Nat)) (q : Nat) (w : List Nat) (c : Nat) : ledF a g q (w ++ [c]) = (g.getD (ledF a g q w) []).getD (a.cps.toList.idxOf c) 0 := by
  unfold ledF
  rw [List.foldl_append]; rfl
/-- one step in the rows -/
theorem step_ix {S : Store} {K : KE} {a : Str} {g : List (List Nat)} {q c : Nat} (ok : okRows a.length g) (hq : q < g.length) (hc : c ∈ a.cps.toList) (k : K (natD ((g.getD q []).getD (a.cps.toList.idxOf c) 0)) S) : gIx (encRow (g.getD q [])) (.int ((a.cps.toList.idxOf c : Nat) : Int)) S K := by
  obtain ⟨h1, h2⟩ := ok g[q] (List.getElem_mem hq)
  have hi : a.cps.toList.idxOf c < g[q].length := by
    rw [h1, ← cps_len]; exact List.idxOf_lt_length_iff.mpr hc
  have e0 : g.getD q [] = g[q] := by simp [List.getD, List.getElem?_eq_getElem hq]
  rw [e0] at k ⊢
  refine x_ixn (xs := g[q].map fun (n : Nat) => Dat.int (n : Int)) rfl (y := natD (g[q].getD (a.cps.toList.idxOf c) 0)) ?_ k
  rw [List.getElem?_map, List.getElem?_eq_getElem hi]
  simp [List.getD, List.getElem?_eq_getElem hi]
theorem row_get {g : List (List Nat)} {q : Nat} (hq : q < g.length) : (g.map encRow)[q]? = some (encRow (g.getD q [])) := by
  rw [List.getElem?_map, List.getElem?_eq_getElem hq]
  simp [List.getD, List.getElem?_eq_getElem hq]
theorem need_bad {KF : PySem.W.Frag} {S : Store} {a : Str} {v : Dat} {Kt : KE} {X : KX} (h : badWord S a v) (k : X (excIW KF v) S) : sp_need_word KF [.str a, v] S Kt X := ⟨a, v, rfl, .inr ⟨h, k⟩⟩
theorem r_Machine_led {KF : PySem.W.Frag} {ds S K X} (h : sp_Machine_led KF ds S K X) (hb : belows S.length ds) (hS : belows S.length S) : u_Machine_led KF (endsOf S K X) (startD ["self", "state", "word", "letter"] ds) S := by
  obtain ⟨d, sv, v, a, g, s, rfl, ma, h⟩ := h
  simp only [belows] at hb
  have szl : sizeLine = 16777216 := rfl
  show u_Machine_led KF (endsOf S K X) [some d, some sv, some v, none] S
  unfold u_Machine_led
  walk_at "j"
  refine ⟨_, _, _, _, ma.ins, by decide +kernel, List.mem_cons_self, ?_⟩
  walk_at "j"
  rcases h with ⟨hn, k⟩ | ⟨q, rfl, hq, h⟩
  · refine ⟨d, sv, a, g, s, rfl, ma, .inr ⟨hn, ?_⟩⟩
    exact exitX_here (dl := []) (by simp only [belows, below]; exact ⟨True.intro, hb.2.1, True.intro⟩) k
  · refine ⟨d, natD q, a, g, s, rfl, ma, .inl ⟨q, rfl, hq, ?_⟩⟩
    walk_at "j"
    refine ⟨_, _, _, .str a, List.mem_cons_self, ma.ins, rfl, ?_⟩
    walk_at "j"
    rcases h with ⟨hv, k⟩ | ⟨z, rfl, hz, hw, k⟩
    · refine need_bad hv ?_
      exact exitX_here (dl := []) (by simp only [belows, below]; exact ⟨True.intro, hb.2.2.1, True.intro⟩) k
    · refine ⟨a, .str z, rfl, .inl ⟨z, rfl, hz, hw, ?_⟩⟩
      have hwz : ∀ c ∈ z.cps.toList, c ∈ a.cps.toList := fun c hc => of_decide_eq_true (List.all_eq_true.mp hw c hc)
      walk_at "j"
      refine ⟨_, rfl, ?_⟩
      refine for_T z.cps.toList _ (fun pre dl1 S2 => S2 = S ∧ ∃ x3, dl1 = [some d, some (natD (ledF a g q pre)), some (.str z), x3]) ?_ ?_ ?_ ?_
      · exact ⟨rfl, _, rfl⟩
      · intros; rfl
      · rintro pre c rest dl1 S2 hx ⟨rfl, x3, rfl⟩
        have hpre : ∀ x ∈ pre, x ∈ a.cps.toList := fun x hx2 => hwz x (by rw [hx]; exact List.mem_append_left _ hx2)
        have hc : c ∈ a.cps.toList := hwz c (by rw [hx]; exact List.mem_append_right _ List.mem_cons_self)
        have hq2 := led_lt ma.rows pre q hpre hq
        walk_at "j"
        refine ⟨_, _, _, .lst (g.map encRow), List.mem_cons_self, ma.ins, rfl, ?_⟩
        walk_at "j"
        refine x_ixn rfl (row_get hq2) ?_
        walk_at "j"
        refine ⟨_, _, _, .str a, List.mem_cons_self, ma.ins, rfl, ?_⟩
        refine ⟨rfl, ?_⟩
        walk_at "j"
        refine x_sindex hc ?_
        refine step_ix ma.rows hq2 hc ?_
        walk_at "j"
        rw [← led_snoc]
        exact .inl ⟨rfl, _, rfl⟩
      · rintro dl1 S2 ⟨rfl, x3, rfl⟩
        walk_at "j"
        exact exit_here (by simp only [below]) k
theorem r_Machine_after {KF : PySem.W.Frag} {ds S K X} (h : sp_Machine_after KF ds S K X) (hb : belows S.length ds) (hS : belows S.length S) : u_Machine_after KF (endsOf S K X) (startD ["self", "word"] ds) S := by
  obtain ⟨d, v, a, g, s, rfl, ma, h⟩ := h
  simp only [belows] at hb
  show u_Machine_after KF (endsOf S K X) [some d, some v] S
  unfold u_Machine_after
  walk_at "j"
  refine ⟨_, _, _, _, ma.ins, by decide +kernel, List.mem_cons_self, ?_⟩
  walk_at "j"
  refine ⟨_, _, _, natD s, List.mem_cons_self, ma.ins, rfl, ?_⟩
  walk_at "j"
  refine ⟨d, natD s, v, a, g, s, rfl, ma, .inr ⟨s, rfl, ma.st, ?_⟩⟩
  rcases h with ⟨hv, k⟩ | ⟨z, rfl, hz, hw, k⟩
  · exact .inl ⟨hv, exitX_here (dl := []) (by simp only [belows, below]; exact ⟨True.intro, hb.2.1, True.intro⟩) k⟩
  · exact .inr ⟨z, rfl, hz, hw, exit_here (by simp only [below]) k⟩
end DL
namespace DL
open PySem L2
local macro_rules | `(tactic| walk_at "e1") => `(tactic| with_reducible first
  | refine x_var rfl ?_ | refine x_c ?_ | refine x_op ?_ | refine x_un ?_ | refine x_nil ?_ | refine x_cons ?_ | refine x_tup ?_ | refine x_lst ?_ | refine x_lstC ?_ | refine x_cb ?_ | refine x_call ?_ | refine x_if ?_
  | refine x_test ?_ | refine x_and ?_ | refine x_or ?_ | refine x_not ?_ | refine x_tru ?_ | refine x_andV ?_ | refine x_orV ?_ | refine x_notV ?_ | refine x_yes ?_ | refine x_chain ?_
  | refine x_bm ?_ | refine x_bm0 ?_ | refine x_part ?_ | refine x_no ?_ | refine x_sl ?_ | refine x_seqI ?_ | refine x_r1 ?_ | refine x_r2 ?_ | refine x_z ?_ | refine x_lc ?_ | refine x_lcC ?_ | refine x_lcW ?_ | refine x_fld ?_ | refine x_meth ?_ | refine x_prop ?_ | refine x_make ?_ | refine x_en ?_ | refine x_makeK ?_ | refine x_joined ?_ | refine x_jn ?_ | refine x_jc ?_ | refine x_enK ?_ | refine x_give ?_ | refine x_lam ?_)
local macro_rules | `(tactic| walk_at "s1") => `(tactic| with_reducible first
  | refine x_seq ?_ | refine x_next ?_ | refine x_break ?_ | refine x_cont ?_ | refine x_drop ?_ | refine x_ret ?_ | refine x_retN ?_ | refine x_ifS ?_ | refine x_set ?_ | refine x_asg ?_ | refine x_par ?_ | refine x_gsub ?_ | refine x_gnil ?_ | refine x_gcons ?_ | refine x_setF ?_ | refine x_for ?_ | refine x_raise ?_ | refine x_rz1 ?_ | refine x_rz0 ?_)
local macro_rules | `(tactic| walk_at "g1") => `(tactic| first
  | with_reducible refine x_iteT ?_ | with_reducible refine x_iteF ?_ | with_reducible refine x_tN ?_ | with_reducible refine x_tB ?_ | with_reducible refine x_tI ?_ | with_reducible refine x_tT ?_ | with_reducible refine x_tL ?_
  | with_reducible refine x_addI ?_ | with_reducible refine x_sub ?_ | with_reducible refine x_ltI ?_ | with_reducible refine x_leI ?_ | with_reducible refine x_gtI ?_ | with_reducible refine x_geI ?_ | with_reducible refine x_ltS ?_ | with_reducible refine x_leS ?_ | with_reducible refine x_gtS ?_ | with_reducible refine x_geS ?_
  | with_reducible refine x_eqI ?_ | with_reducible refine x_eqS ?_ | with_reducible refine x_eqB ?_ | with_reducible refine x_neI ?_ | with_reducible refine x_neS ?_ | with_reducible refine x_neB ?_ | with_reducible refine x_neg ?_
  | with_reducible refine x_inS ?_ | with_reducible refine x_notinS ?_ | with_reducible refine x_intI ?_ | with_reducible refine x_intB ?_ | with_reducible refine x_abs ?_ | with_reducible refine x_slL ?_ | with_reducible refine x_slT ?_ | with_reducible refine x_min2 ?_ | with_reducible refine x_max2 ?_
  | ((with_reducible refine x_is ?_ ?_); · rfl) | ((with_reducible refine x_isnot ?_ ?_); · rfl) | ((with_reducible refine x_isiD ?_ ?_ ?_); (next => rfl); (next => decide)) | ((with_reducible refine x_isiD2 ?_ ?_ ?_ ?_); (next => rfl); (next => decide); (next => decide)) | ((with_reducible refine x_name ?_ ?_); · exact of_decide_eq_true rfl) | ((with_reducible refine x_gtup ?_ ?_); · rfl))
local macro_rules | `(tactic| walk_at "d") => `(tactic| repeat (first | walk_at "e1" | walk_at "s1" | walk_at "g1" | ((with_reducible refine x_putL ?_ ?_); · rfl) | ((with_reducible refine x_szL ?_ ?_); · rfl) | dsimp only [List.set_cons_succ, List.set_cons_zero]))
local macro_rules | `(tactic| walk_at "i") => `(tactic| repeat (first | walk_at "e1" | walk_at "s1" | walk_at "g1" | ((with_reducible refine x_putL ?_ ?_); · rfl) | ((with_reducible refine x_szL ?_ ?_); · rfl) | ((with_reducible refine x_iteT2 ?_ ?_); · rfl) | ((with_reducible refine x_iteF2 ?_ ?_); · rfl) | dsimp only [List.set_cons_succ, List.set_cons_zero]))
local macro_rules | `(tactic| walk_at "g2") => `(tactic| with_reducible first | refine x_ixt0 ?_ | refine x_ixt1 ?_ | refine x_ixt2 ?_ | refine x_ixt3 ?_ | refine x_lenT ?_)
local macro_rules | `(tactic| walk_at "j") => `(tactic| repeat (first | walk_at "e1" | walk_at "s1" | walk_at "g1" | walk_at "g2" | ((with_reducible refine x_inTi ?_ ?_); · rfl) | ((with_reducible refine x_inTn ?_ ?_); · rfl) | ((with_reducible refine x_putL ?_ ?_); · rfl) | ((with_reducible refine x_szL ?_ ?_); · rfl) | ((with_reducible refine x_iteT2 ?_ ?_); · rfl) | ((with_reducible refine x_iteF2 ?_ ?_); · rfl) | dsimp only [List.set_cons_succ, List.set_cons_zero]))
theorem app_str (a b : Str) : a ++ b = Str.append a b := rfl
theorem r_Machine_alphabet {KF : PySem.W.Frag} {ds S K X} (h : sp_Machine_alphabet KF ds S K X) (hb : belows S.length ds) (hS : belows S.length S) : u_Machine_alphabet KF (endsOf S K X) (startD ["self"] ds) S := by
  obtain ⟨d, a, g, s, rfl, ma, k⟩ := h
  show u_Machine_alphabet KF (endsOf S K X) [some d] S
  unfold u_Machine_alphabet
  walk_at "j"
  refine ⟨_, _, _, .str a, List.mem_cons_self, ma.ins, rfl, ?_⟩
  exact exit_here (by simp only [below]) k
theorem r_Machine_start {KF : PySem.W.Frag} {ds S K X} (h : sp_Machine_start KF ds S K X) (hb : belows S.length ds) (hS : belows S.length S) : u_Machine_start KF (endsOf S K X) (startD ["self"] ds) S := by
  obtain ⟨d, a, g, s, rfl, ma, k⟩ := h
  show u_Machine_start KF (endsOf S K X) [some d] S
  unfold u_Machine_start
  walk_at "j"
  refine ⟨_, _, _, natD s, List.mem_cons_self, ma.ins, rfl, ?_⟩
  exact exit_here (by simp only [below]) k
theorem r_Machine_rows {KF : PySem.W.Frag} {ds S K X} (h : sp_Machine_rows KF ds S K X) (hb : belows S.length ds) (hS : belows S.length S) : u_Machine_rows KF (endsOf S K X) (startD ["self"] ds) S := by
  obtain ⟨d, a, g, s, rfl, ma, k⟩ := h
  show u_Machine_rows KF (endsOf S K X) [some d] S
  unfold u_Machine_rows
  walk_at "j"
  refine ⟨_, _, _, .lst (g.map encRow), List.mem_cons_self, ma.ins, rfl, ?_⟩
  walk_at "j"
  refine x_listC rfl ?_
  refine ⟨S ++ [.lst (g.map encRow)], .cell S.length, ⟨⟨[], by simp⟩, by simp, .inr ?_⟩, .same (by simp only [below, List.length_append, List.length_singleton]; omega), k⟩
  refine belows_app (hS.mono (by simp)) ?_
  simp only [belows, below, and_true]
  exact rows_below g
theorem r_Machine_len {KF : PySem.W.Frag} {ds S K X} (h : sp_Machine_len KF ds S K X) (hb : belows S.length ds) (hS : belows S.length S) : u_Machine_len KF (endsOf S K X) (startD ["self"] ds) S := by
  obtain ⟨d, a, g, s, rfl, ma, k⟩ := h
  show u_Machine_len KF (endsOf S K X) [some d] S
  unfold u_Machine_len
  walk_at "j"
  refine ⟨_, _, _, .lst (g.map encRow), List.mem_cons_self, ma.ins, rfl, ?_⟩
  walk_at "j"
  refine x_lenL rfl ?_
  rw [List.length_map]
  exact exit_here (by simp only [below]) k
theorem toStr_len : ∀ n : Nat, n ≤ 1000 → ((toString (n : Int) : Str)).length ≤ 4 := by
  intro n h
  have : (List.range 1001).all (fun n => decide ((toString (n : Int) : Str).length ≤ 4)) = true := by kernel_rfl
  exact of_decide_eq_true (List.all_eq_true.mp this n (List.mem_range.mpr (by omega)))
theorem log_small {n : Nat} (h : n ≤ 1000000) : ((n : Int)).natAbs.log2 < 1920 := by
  have : n.log2 ≤ n := Nat.log2_le_self n
  rcases Nat.eq_zero_or_pos n with rfl | hp
  · decide
  · have := (Nat.log2_lt (by omega : n ≠ 0) (k := 20)).mpr (by omega)
    simp only [Int.natAbs_natCast]
    omega
theorem r_Machine_repr {KF : PySem.W.Frag} {ds S K X} (h : sp_Machine_repr KF ds S K X) (hb : belows S.length ds) (hS : belows S.length S) : u_Machine_repr KF (endsOf S K X) (startD ["self"] ds) S := by
  obtain ⟨d, a, g, s, rfl, ma, k⟩ := h
  have szl : sizeLine = 16777216 := rfl
  have hm := ma.most
  show u_Machine_repr KF (endsOf S K X) [some d] S
  unfold u_Machine_repr
  walk_at "j"
  refine ⟨_, rfl, ?_, ?_⟩
  · decide +kernel
  walk_at "j"
  refine ⟨_, _, _, .lst (g.map encRow), List.mem_cons_self, ma.ins, rfl, ?_⟩
  walk_at "j"
  refine x_lenL rfl ?_
  rw [List.length_map]
  refine x_fmtI (log_small (by omega)) ?_
  have h4 := toStr_len g.length hm
  have l1 : ∀ a b : Str, (a ++ b).length = a.length + b.length := fun a b => by
    rw [← cps_len, ← cps_len, ← cps_len]
    show (a.cps ++ b.cps).toList.length = _
    rw [Array.toList_append, List.length_append]
  have e0 : (Str.empty ++ ("Machine(" : Str)) = "Machine(" := by decide +kernel
  have l0 : ("Machine(" : Str).length = 8 := by decide +kernel
  have l2 : (" states)" : Str).length = 8 := by decide +kernel
  rw [e0]
  refine ⟨_, rfl, by rw [l1, l0]; omega, ?_⟩
  walk_at "j"
  refine ⟨_, rfl, by rw [l1, l1, l0, l2]; omega, ?_⟩
  walk_at "j"
  exact exit_here (by simp only [below]) k
end DL
namespace DL
open PySem L2
local macro_rules | `(tactic| walk_at "e1") => `(tactic| with_reducible first
  | refine x_var rfl ?_ | refine x_c ?_ | refine x_op ?_ | refine x_un ?_ | refine x_nil ?_ | refine x_cons ?_ | refine x_tup ?_ | refine x_lst ?_ | refine x_lstC ?_ | refine x_cb ?_ | refine x_call ?_ | refine x_if ?_
  | refine x_test ?_ | refine x_and ?_ | refine x_or ?_ | refine x_not ?_ | refine x_tru ?_ | refine x_andV ?_ | refine x_orV ?_ | refine x_notV ?_ | refine x_yes ?_ | refine x_chain ?_
  | refine x_bm ?_ | refine x_bm0 ?_ | refine x_part ?_ | refine x_no ?_ | refine x_sl ?_ | refine x_seqI ?_ | refine x_r1 ?_ | refine x_r2 ?_ | refine x_z ?_ | refine x_lc ?_ | refine x_lcC ?_ | refine x_lcW ?_ | refine x_fld ?_ | refine x_meth ?_ | refine x_prop ?_ | refine x_make ?_ | refine x_en ?_ | refine x_makeK ?_ | refine x_give ?_ | refine x_lam ?_)
local macro_rules | `(tactic| walk_at "s1") => `(tactic| with_reducible first
  | refine x_seq ?_ | refine x_next ?_ | refine x_break ?_ | refine x_cont ?_ | refine x_drop ?_ | refine x_ret ?_ | refine x_retN ?_ | refine x_ifS ?_ | refine x_set ?_ | refine x_asg ?_ | refine x_par ?_ | refine x_gsub ?_ | refine x_gnil ?_ | refine x_gcons ?_ | refine x_setF ?_ | refine x_for ?_ | refine x_raise ?_ | refine x_rz1 ?_ | refine x_rz0 ?_)
local macro_rules | `(tactic| walk_at "g1") => `(tactic| first
  | with_reducible refine x_iteT ?_ | with_reducible refine x_iteF ?_ | with_reducible refine x_tN ?_ | with_reducible refine x_tB ?_ | with_reducible refine x_tI ?_ | with_reducible refine x_tT ?_ | with_reducible refine x_tL ?_
  | with_reducible refine x_addI ?_ | with_reducible refine x_sub ?_ | with_reducible refine x_ltI ?_ | with_reducible refine x_leI ?_ | with_reducible refine x_gtI ?_ | with_reducible refine x_geI ?_ | with_reducible refine x_ltS ?_ | with_reducible refine x_leS ?_ | with_reducible refine x_gtS ?_ | with_reducible refine x_geS ?_
  | with_reducible refine x_eqI ?_ | with_reducible refine x_eqS ?_ | with_reducible refine x_eqB ?_ | with_reducible refine x_neI ?_ | with_reducible refine x_neS ?_ | with_reducible refine x_neB ?_ | with_reducible refine x_neg ?_
  | with_reducible refine x_inS ?_ | with_reducible refine x_notinS ?_ | with_reducible refine x_intI ?_ | with_reducible refine x_intB ?_ | with_reducible refine x_abs ?_ | with_reducible refine x_slL ?_ | with_reducible refine x_slT ?_ | with_reducible refine x_min2 ?_ | with_reducible refine x_max2 ?_
  | ((with_reducible refine x_is ?_ ?_); · rfl) | ((with_reducible refine x_isnot ?_ ?_); · rfl) | ((with_reducible refine x_isiD ?_ ?_ ?_); (next => rfl); (next => decide)) | ((with_reducible refine x_isiD2 ?_ ?_ ?_ ?_); (next => rfl); (next => decide); (next => decide)) | ((with_reducible refine x_name ?_ ?_); · exact of_decide_eq_true rfl) | ((with_reducible refine x_gtup ?_ ?_); · rfl))
local macro_rules | `(tactic| walk_at "d") => `(tactic| repeat (first | walk_at "e1" | walk_at "s1" | walk_at "g1" | ((with_reducible refine x_putL ?_ ?_); · rfl) | ((with_reducible refine x_szL ?_ ?_); · rfl) | dsimp only [List.set_cons_succ, List.set_cons_zero]))
local macro_rules | `(tactic| walk_at "i") => `(tactic| repeat (first | walk_at "e1" | walk_at "s1" | walk_at "g1" | ((with_reducible refine x_putL ?_ ?_); · rfl) | ((with_reducible refine x_szL ?_ ?_); · rfl) | ((with_reducible refine x_iteT2 ?_ ?_); · rfl) | ((with_reducible refine x_iteF2 ?_ ?_); · rfl) | dsimp only [List.set_cons_succ, List.set_cons_zero]))
local macro_rules | `(tactic| walk_at "g2") => `(tactic| with_reducible first | refine x_ixt0 ?_ | refine x_ixt1 ?_ | refine x_ixt2 ?_ | refine x_ixt3 ?_ | refine x_lenT ?_)
local macro_rules | `(tactic| walk_at "j") => `(tactic| repeat (first | walk_at "e1" | walk_at "s1" | walk_at "g1" | walk_at "g2" | ((with_reducible refine x_inTi ?_ ?_); · rfl) | ((with_reducible refine x_inTn ?_ ?_); · rfl) | ((with_reducible refine x_putL ?_ ?_); · rfl) | ((with_reducible refine x_szL ?_ ?_); · rfl) | ((with_reducible refine x_iteT2 ?_ ?_); · rfl) | ((with_reducible refine x_iteF2 ?_ ?_); · rfl) | dsimp only [List.set_cons_succ, List.set_cons_zero]))
/-- an error with one field, caught -/
theorem got_exc {mt : Addr → Prop} {S : Store} {K : KE} {X : KX} {l : LamI} {cl : List (Str × Addr)} {C : Addr} {co f : Str} {v : Dat} (hm : mt C) (hf : fieldD co ((["code", f] : List Str).zip [.str co, v]) = some (.tup [v])) (hv : ∀ n, below n v) (k : K (.tup [.str co, .tup [v]]) S) : xGot mt S K X l cl ⟨C, ["code", f], [.str co, v]⟩ S := by
  refine got_err ⟨hm, co, .tup [v], rfl, hf, (fun _ => by simp only [below, belows]; exact ⟨hv _, True.intro⟩), ?_⟩
  exact exit_same (by simp only [below, belows]; exact ⟨True.intro, ⟨hv _, True.intro⟩, True.intro⟩) k
theorem fd_given {co : Str} {v : Dat} (h : anyStr co (cs1.map Dat.str) = true) : fieldD co ((["code", "given"] : List Str).zip [.str co, v]) = some (.tup [v]) := by
  unfold fieldD
  rw [if_pos h]
  rfl
theorem fd_at {co : Str} {v : Dat} (h1 : anyStr co (cs1.map Dat.str) = false) (h2 : anyStr co (cs2.map Dat.str) = false) (h : anyStr co (cs3.map Dat.str) = true) : fieldD co ((["code", "at"] : List Str).zip [.str co, v]) = some (.tup [v]) := by
  unfold fieldD
  rw [if_neg (by rw [h1]; decide), if_neg (by rw [h2]; decide), if_pos h]
  rfl
theorem same_t0 {S : Store} {n : Nat} : SameD S (n + 1) (.tup []) (.tup []) := .inr (.inr (.inr (.inr (.inl ⟨[], [], rfl, rfl, rfl, Nat.zero_le _, fun i x y e1 _ => by cases e1⟩))))
theorem same_pair {S : Store} {n : Nat} {co : Str} {v : Dat} (h : SameD S (n + 1) v v) : SameD S (n + 3) (.tup [.str co, .tup [v]]) (.tup [.str co, .tup [v]]) := same_t2 same_str (same_t1 h)
theorem same_l3 {S : Store} {n : Nat} {a b c : Dat} (h1 : SameD S n a a) (h2 : SameD S n b b) (h3 : SameD S n c c) : SameD S (n + 1) (.lst [a, b, c]) (.lst [a, b, c]) :=
  .inr (.inr (.inr (.inr (.inr ⟨_, _, rfl, rfl, rfl, Nat.le_of_ble_eq_true rfl, fun i x y e1 e2 => by
    rw [e1] at e2
    injection e2 with e2
    subst e2
    match i, e1 with
    | 0, e1 => cases e1; exact h1
    | 1, e1 => cases e1; exact h2
    | 2, e1 => cases e1; exact h3
    | n + 3, e1 => cases e1⟩))))
/-- data that is no word over z, told by its copy -/
structure NoWord (z : Str) (v : Dat) : Prop where
  bad : ∀ S, badWord S z v
  same : ∀ S n, SameD S (n + 2) v v
  bel : ∀ n, below n v
theorem no_plus {z : Str} (hz : isAlpha z = true) : NoWord z (.str (z ++ "A")) := by
  have hl := (alpha_len hz).1
  have habc : ∀ q ∈ z.cps.toList, q ∈ abc.cps.toList := by
    simp only [isAlpha, Bool.and_eq_true, List.all_eq_true, decide_eq_true_eq] at hz
    exact hz.2.1
  have hlen : (z ++ ("A" : Str)).length = z.length + 1 := by
    rw [← cps_len, ← cps_len]
    show (z.cps ++ (Str.ofString "A").cps).toList.length = _
    rw [Array.toList_append, List.length_append]; rfl
  refine ⟨fun S => .inl ⟨_, rfl, by rw [hlen]; omega, ?_⟩, fun S n => same_str, fun n => by simp only [below]⟩
  unfold isWord
  refine List.all_eq_false.mpr ⟨65, ?_, ?_⟩
  · show 65 ∈ (z.cps ++ (Str.ofString "A").cps).toList
    rw [Array.toList_append]
    exact List.mem_append_right _ (by decide +kernel)
  · simp only [decide_eq_true_eq]
    exact fun e => absurd (habc 65 e) (by decide +kernel)
theorem no_sign {z t : Str} {q : Nat} (hz : isAlpha z = true) (ht : t.length ≤ 1000000) (hq : q ∈ t.cps.toList) (hn : q ∉ abc.cps.toList) : NoWord z (.str t) := by
  have habc : ∀ q ∈ z.cps.toList, q ∈ abc.cps.toList := by
    simp only [isAlpha, Bool.and_eq_true, List.all_eq_true, decide_eq_true_eq] at hz
    exact hz.2.1
  refine ⟨fun S => .inl ⟨_, rfl, ht, ?_⟩, fun S n => same_str, fun n => by simp only [below]⟩
  unfold isWord
  refine List.all_eq_false.mpr ⟨q, hq, ?_⟩
  simp only [decide_eq_true_eq]
  exact fun e => hn (habc q e)
theorem no_non {z : Str} : NoWord z .non := ⟨fun S => .inr ⟨"NoneType", rfl, by decide, by decide⟩, fun S n => same_non, fun n => by simp only [below]⟩
theorem no_int {z : Str} {i : Int} : NoWord z (.int i) := ⟨fun S => .inr ⟨"int", rfl, by decide, by decide⟩, fun S n => same_int, fun n => by simp only [below]⟩
theorem no_bl {z : Str} {i : Bool} : NoWord z (.bl i) := ⟨fun S => .inr ⟨"bool", rfl, by decide, by decide⟩, fun S n => same_bl, fun n => by simp only [below]⟩
theorem no_lst {z s : Str} : NoWord z (.lst [.str s]) := ⟨fun S => .inr ⟨"list", rfl, by decide, by decide⟩, fun S n => same_l1 same_str, fun n => by simp only [below, belows, and_true]⟩
theorem no_tup0 {z : Str} : NoWord z (.tup []) := ⟨fun S => .inr ⟨"tuple", rfl, by decide, by decide⟩, fun S n => same_t0, fun n => by simp only [below, belows]⟩
theorem no_tup {z s : Str} : NoWord z (.tup [.str s]) := ⟨fun S => .inr ⟨"tuple", rfl, by decide, by decide⟩, fun S n => same_t1 same_str, fun n => by simp only [below, belows, and_true]⟩
end DL
namespace DL
open PySem L2
local macro_rules | `(tactic| walk_at "e1") => `(tactic| with_reducible first
  | refine x_var rfl ?_ | refine x_c ?_ | refine x_op ?_ | refine x_un ?_ | refine x_nil ?_ | refine x_cons ?_ | refine x_tup ?_ | refine x_lst ?_ | refine x_lstC ?_ | refine x_cb ?_ | refine x_call ?_ | refine x_if ?_
  | refine x_test ?_ | refine x_and ?_ | refine x_or ?_ | refine x_not ?_ | refine x_tru ?_ | refine x_andV ?_ | refine x_orV ?_ | refine x_notV ?_ | refine x_yes ?_ | refine x_chain ?_
  | refine x_bm ?_ | refine x_bm0 ?_ | refine x_part ?_ | refine x_no ?_ | refine x_sl ?_ | refine x_seqI ?_ | refine x_r1 ?_ | refine x_r2 ?_ | refine x_z ?_ | refine x_lc ?_ | refine x_lcC ?_ | refine x_lcW ?_ | refine x_fld ?_ | refine x_meth ?_ | refine x_prop ?_ | refine x_make ?_ | refine x_en ?_ | refine x_makeK ?_ | refine x_joined ?_ | refine x_jn ?_ | refine x_jc ?_ | refine x_enK ?_ | refine x_give ?_ | refine x_lam ?_)
local macro_rules | `(tactic| walk_at "s1") => `(tactic| with_reducible first
  | refine x_seq ?_ | refine x_next ?_ | refine x_break ?_ | refine x_cont ?_ | refine x_drop ?_ | refine x_ret ?_ | refine x_retN ?_ | refine x_ifS ?_ | refine x_set ?_ | refine x_asg ?_ | refine x_par ?_ | refine x_gsub ?_ | refine x_gnil ?_ | refine x_gcons ?_ | refine x_setF ?_ | refine x_for ?_ | refine x_raise ?_ | refine x_rz1 ?_ | refine x_rz0 ?_)
local macro_rules | `(tactic| walk_at "g1") => `(tactic| first
  | with_reducible refine x_iteT ?_ | with_reducible refine x_iteF ?_ | with_reducible refine x_tN ?_ | with_reducible refine x_tB ?_ | with_reducible refine x_tI ?_ | with_reducible refine x_tT ?_ | with_reducible refine x_tL ?_
  | with_reducible refine x_addI ?_ | with_reducible refine x_sub ?_ | with_reducible refine x_ltI ?_ | with_reducible refine x_leI ?_ | with_reducible refine x_gtI ?_ | with_reducible refine x_geI ?_ | with_reducible refine x_ltS ?_ | with_reducible refine x_leS ?_ | with_reducible refine x_gtS ?_ | with_reducible refine x_geS ?_
  | with_reducible refine x_eqI ?_ | with_reducible refine x_eqS ?_ | with_reducible refine x_eqB ?_ | with_reducible refine x_neI ?_ | with_reducible refine x_neS ?_ | with_reducible refine x_neB ?_ | with_reducible refine x_neg ?_
  | with_reducible refine x_inS ?_ | with_reducible refine x_notinS ?_ | with_reducible refine x_intI ?_ | with_reducible refine x_intB ?_ | with_reducible refine x_abs ?_ | with_reducible refine x_slL ?_ | with_reducible refine x_slT ?_ | with_reducible refine x_min2 ?_ | with_reducible refine x_max2 ?_
  | ((with_reducible refine x_is ?_ ?_); · rfl) | ((with_reducible refine x_isnot ?_ ?_); · rfl) | ((with_reducible refine x_isiD ?_ ?_ ?_); (next => rfl); (next => decide)) | ((with_reducible refine x_isiD2 ?_ ?_ ?_ ?_); (next => rfl); (next => decide); (next => decide)) | ((with_reducible refine x_name ?_ ?_); · exact of_decide_eq_true rfl) | ((with_reducible refine x_gtup ?_ ?_); · rfl))
local macro_rules | `(tactic| walk_at "d") => `(tactic| repeat (first | walk_at "e1" | walk_at "s1" | walk_at "g1" | ((with_reducible refine x_putL ?_ ?_); · rfl) | ((with_reducible refine x_szL ?_ ?_); · rfl) | dsimp only [List.set_cons_succ, List.set_cons_zero]))
local macro_rules | `(tactic| walk_at "i") => `(tactic| repeat (first | walk_at "e1" | walk_at "s1" | walk_at "g1" | ((with_reducible refine x_putL ?_ ?_); · rfl) | ((with_reducible refine x_szL ?_ ?_); · rfl) | ((with_reducible refine x_iteT2 ?_ ?_); · rfl) | ((with_reducible refine x_iteF2 ?_ ?_); · rfl) | dsimp only [List.set_cons_succ, List.set_cons_zero]))
local macro_rules | `(tactic| walk_at "g2") => `(tactic| with_reducible first | refine x_ixt0 ?_ | refine x_ixt1 ?_ | refine x_ixt2 ?_ | refine x_ixt3 ?_ | refine x_lenT ?_)
local macro_rules | `(tactic| walk_at "j") => `(tactic| repeat (first | walk_at "e1" | walk_at "s1" | walk_at "g1" | walk_at "g2" | ((with_reducible refine x_inTi ?_ ?_); · rfl) | ((with_reducible refine x_inTn ?_ ?_); · rfl) | ((with_reducible refine x_putL ?_ ?_); · rfl) | ((with_reducible refine x_szL ?_ ?_); · rfl) | ((with_reducible refine x_iteT2 ?_ ?_); · rfl) | ((with_reducible refine x_iteF2 ?_ ?_); · rfl) | dsimp only [List.set_cons_succ, List.set_cons_zero]))
theorem r_law_goals {KF : PySem.W.Frag} {ds S K X} (h : sp_law_goals KF ds S K X) (hb : belows S.length ds) (hS : belows S.length S) : u_law_goals KF (endsOf S K X) (startD ["_law_bag_here", "_law_many", "_law_width", "_law_at", "_law_k"] ds) S := by
  obtain ⟨b, bag, m, w, rfl, hm0, hm, hw, hbag, hB, k⟩ := h
  have hbl : b < S.length := (List.getElem?_eq_some_iff.mp hbag).1
  have szl : sizeLine = 16777216 := rfl
  show u_law_goals KF (endsOf S K X) [some (.cell b), some (natD m), some (natD w), none, none] S
  unfold u_law_goals
  walk_at "j"
  refine ⟨⟨by omega, by omega⟩, ?_⟩
  rw [show ((m : Nat) : Int).toNat = m by omega, rangeD0]
  refine lc_S (List.range m) _ (fun pre acc S2 => ∃ (g : List (List Nat)) (bag' : Dat), acc = g.map encRow ∧ g.length = pre.length ∧ (∀ r ∈ g, r.length = w ∧ ∀ x ∈ r, x < m) ∧ IsBag bag' ∧ S2 = S.set b bag') ?_ ?_ ?_ ?_ ?_
  · rw [List.length_range]; omega
  · exact ⟨[], bag, rfl, rfl, (fun r h => by cases h), hB, set_self hbag⟩
  · rintro pre acc S2 ⟨g, bag', rfl, hg, _, _, rfl⟩
    exact ⟨trivial, by rw [List.length_map]; omega⟩
  · rintro pre i rest acc S2 hx ⟨g, bag', rfl, hg, hr, hB', rfl⟩
    dsimp only [wipeD, List.set_cons_succ, List.set_cons_zero]
    walk_at "j"
    refine ⟨⟨by omega, by omega⟩, ?_⟩
    rw [show ((w : Nat) : Int).toNat = w by omega, rangeD0]
    refine lc_S (List.range w) _ (fun pre acc S2 => ∃ (r : List Nat) (bag' : Dat), acc = r.map (fun (n : Nat) => Dat.int (n : Int)) ∧ r.length = pre.length ∧ (∀ x ∈ r, x < m) ∧ IsBag bag' ∧ S2 = S.set b bag') ?_ ?_ ?_ ?_ ?_
    · rw [List.length_range]; omega
    · exact ⟨[], bag', rfl, rfl, (fun r h => by cases h), hB', rfl⟩
    · rintro pre acc S2 ⟨r, bag', rfl, hg, _, _, rfl⟩
      exact ⟨trivial, by rw [List.length_map]; omega⟩
    · rintro pre2 i2 rest2 acc S2 hx2 ⟨r, bag2, rfl, hrl, hrx, hB2, rfl⟩
      dsimp only [wipeD, List.set_cons_succ, List.set_cons_zero]
      walk_at "j"
      refine pull_of (by omega) (by omega) (List.getElem?_set_self hbl) hB2 (fun p bag3 hp hB3 => ?_)
      rw [List.set_set]
      refine ⟨r ++ [p], bag3, by simp, by rw [List.length_append, List.length_append, hrl]; rfl, fun x hx => ?_, hB3, rfl⟩
      rcases List.mem_append.mp hx with h | h
      · exact hrx x h
      · rw [List.mem_singleton.mp h]; omega
    · rintro acc S2 ⟨r, bag2, rfl, hrl, hrx, hB2, rfl⟩
      rw [List.length_range] at hrl
      walk_at "j"
      refine x_tuple rfl ?_
      walk_at "j"
      refine ⟨g ++ [r], bag2, by rw [List.map_append]; rfl, by rw [List.length_append, List.length_append, hg]; rfl, fun q hq => ?_, hB2, rfl⟩
      rcases List.mem_append.mp hq with h | h
      · exact hr q h
      · rw [List.mem_singleton.mp h]; exact ⟨hrl, hrx⟩
  · rintro acc S2 ⟨g, bag', rfl, hg, hr, hB', rfl⟩
    rw [List.length_range] at hg
    walk_at "j"
    exact exit_set0 hS (bag_below hB') (by simp only [below]; exact rows_below g) (k g bag' hg (fun r h => by rw [hg]; exact hr r h) hB')
theorem r_law_go {KF : PySem.W.Frag} {ds S K X} (h : sp_law_go KF ds S K X) (hb : belows S.length ds) (hS : belows S.length S) : u_law_go KF (endsOf S K X) (startD ["_law_goals_here", "_law_signs_here", "_law_at", "_law_text_here", "_law_sign"] ds) S := by
  obtain ⟨a, z, g, q, rfl, ok, hq, hw, ha, hz, k⟩ := h
  have hwz : ∀ c ∈ z.cps.toList, c ∈ a.cps.toList := fun c hc => of_decide_eq_true (List.all_eq_true.mp hw c hc)
  show u_law_go KF (endsOf S K X) [some (.lst (g.map encRow)), some (.str a), some (natD q), some (.str z), none] S
  unfold u_law_go
  walk_at "j"
  refine ⟨_, rfl, ?_⟩
  refine for_T z.cps.toList _ (fun pre dl1 S2 => S2 = S ∧ ∃ x4, dl1 = [some (.lst (g.map encRow)), some (.str a), some (natD (ledF a g q pre)), some (.str z), x4]) ?_ ?_ ?_ ?_
  · exact ⟨rfl, _, rfl⟩
  · intros; rfl
  · rintro pre c rest dl1 S2 hx ⟨rfl, x3, rfl⟩
    have hpre : ∀ x ∈ pre, x ∈ a.cps.toList := fun x hx2 => hwz x (by rw [hx]; exact List.mem_append_left _ hx2)
    have hc : c ∈ a.cps.toList := hwz c (by rw [hx]; exact List.mem_append_right _ List.mem_cons_self)
    have hq2 := led_lt ok pre q hpre hq
    walk_at "j"
    refine x_ixn rfl (row_get hq2) ?_
    walk_at "j"
    refine ⟨rfl, ?_⟩
    walk_at "j"
    refine x_sindex hc ?_
    refine step_ix ok hq2 hc ?_
    walk_at "j"
    rw [← led_snoc]
    exact .inl ⟨rfl, _, rfl⟩
  · rintro dl1 S2 ⟨rfl, x3, rfl⟩
    walk_at "j"
    exact exit_here (by simp only [below]) k
theorem r_law_number_like {KF : PySem.W.Frag} {ds S K X} (h : sp_law_number_like KF ds S K X) (hb : belows S.length ds) (hS : belows S.length S) : u_law_number_like KF (endsOf S K X) (startD ["_law_bag_here", "_law_many"] ds) S := by
  obtain ⟨b, bag, m, rfl, hbag, hB, k⟩ := h
  have hbl : b < S.length := (List.getElem?_eq_some_iff.mp hbag).1
  show u_law_number_like KF (endsOf S K X) [some (.cell b), some (natD m)] S
  unfold u_law_number_like
  walk_at "j"
  refine of_lst (Nat.le_of_ble_eq_true rfl) (Nat.le_of_ble_eq_true rfl) hbag hB (fun i v bag2 hv hB2 => ?_)
  have hm := List.mem_of_getElem? hv
  have hbv : ∀ n, below n v := fun n => by
    simp only [List.mem_cons, List.not_mem_nil, or_false] at hm
    rcases hm with rfl | rfl | rfl | rfl | rfl | rfl | rfl | rfl | rfl <;> simp only [below, belows, and_true]
  exact exit_set0 hS (bag_below hB2) (hbv _) (k v bag2 hm hB2)
structure NoState (m : Nat) (v : Dat) : Prop where
  bad : ∀ S, notIn S v m
  same : ∀ S n, SameD S (n + 2) v v
  bel : ∀ n, below n v
theorem no_state {m : Nat} {v : Dat} (h : numLike m v) : NoState m v := by
  simp only [numLike, List.mem_cons, List.not_mem_nil, or_false] at h
  rcases h with rfl | rfl | rfl | rfl | rfl | rfl | rfl | rfl | rfl
  · exact ⟨fun S => .inl ⟨_, rfl, by omega⟩, fun S n => same_int, fun n => by simp only [below]⟩
  · exact ⟨fun S => .inl ⟨_, rfl, by omega⟩, fun S n => same_int, fun n => by simp only [below]⟩
  · exact ⟨fun S => .inr ⟨"NoneType", rfl, by decide, by decide⟩, fun S n => same_non, fun n => by simp only [below]⟩
  · exact ⟨fun S => .inr ⟨"bool", rfl, by decide, by decide⟩, fun S n => same_bl, fun n => by simp only [below]⟩
  · exact ⟨fun S => .inr ⟨"bool", rfl, by decide, by decide⟩, fun S n => same_bl, fun n => by simp only [below]⟩
  · exact ⟨fun S => .inr ⟨"str", rfl, by decide, by decide⟩, fun S n => same_str, fun n => by simp only [below]⟩
  · exact ⟨fun S => .inr ⟨"list", rfl, by decide, by decide⟩, fun S n => same_l1 same_int, fun n => by simp only [below, belows, and_true]⟩
  · exact ⟨fun S => .inr ⟨"tuple", rfl, by decide, by decide⟩, fun S n => same_t1 same_int, fun n => by simp only [below, belows, and_true]⟩
  · exact ⟨fun S => .inl ⟨_, rfl, by omega⟩, fun S n => same_int, fun n => by simp only [below]⟩
/-- a machine is made -/
theorem make_ma {KF : PySem.W.Frag} {S : Store} {K : KE} {XX : KX} {z : Str} {g : List (List Nat)} {s : Nat} (hz : isAlpha z = true) (ok : okRows z.length g) (h0 : 0 < g.length) (hl : g.length ≤ 1000) (hs : s < g.length) (k : K (maD KF z g s) S) :
    sp_Machine_init KF [.cell S.length, .str z, .lst (g.map encRow), natD s] (S ++ [.ins (He.ga KF "Machine") [] []]) (fun d S3 => d = .non ∧ ExitTo S K (.cell S.length) S3) XX := by
  obtain ⟨h4, _, _⟩ := alpha_len hz
  refine ⟨S.length, _, _, _, rfl, by simp, .made z g s rfl (by omega) hz rfl h0 hl ok rfl hs (by intro h; cases h) ⟨rfl, ?_⟩⟩
  rw [List.set_append_right _ _ (by omega), Nat.sub_self, List.set_cons_zero]
  exact ⟨S, maD KF z g s, ⟨⟨[maD KF z g s], rfl⟩, Nat.le_refl _, .inl rfl⟩, .cell (Nat.le_refl _) (by simp) (.same ma_below), k⟩
end DL
namespace DL
open PySem L2
local macro_rules | `(tactic| walk_at "e1") => `(tactic| with_reducible first
  | refine x_var rfl ?_ | refine x_c ?_ | refine x_op ?_ | refine x_un ?_ | refine x_nil ?_ | refine x_cons ?_ | refine x_tup ?_ | refine x_lst ?_ | refine x_lstC ?_ | refine x_cb ?_ | refine x_call ?_ | refine x_if ?_
  | refine x_test ?_ | refine x_and ?_ | refine x_or ?_ | refine x_not ?_ | refine x_tru ?_ | refine x_andV ?_ | refine x_orV ?_ | refine x_notV ?_ | refine x_yes ?_ | refine x_chain ?_
  | refine x_bm ?_ | refine x_bm0 ?_ | refine x_part ?_ | refine x_no ?_ | refine x_sl ?_ | refine x_seqI ?_ | refine x_r1 ?_ | refine x_r2 ?_ | refine x_z ?_ | refine x_lc ?_ | refine x_lcC ?_ | refine x_lcW ?_ | refine x_fld ?_ | refine x_meth ?_ | refine x_prop ?_ | refine x_make ?_ | refine x_en ?_ | refine x_makeK ?_ | refine x_joined ?_ | refine x_jn ?_ | refine x_jc ?_ | refine x_enK ?_ | refine x_give ?_ | refine x_lam ?_)
local macro_rules | `(tactic| walk_at "s1") => `(tactic| with_reducible first
  | refine x_seq ?_ | refine x_next ?_ | refine x_break ?_ | refine x_cont ?_ | refine x_drop ?_ | refine x_ret ?_ | refine x_retN ?_ | refine x_ifS ?_ | refine x_set ?_ | refine x_asg ?_ | refine x_par ?_ | refine x_gsub ?_ | refine x_gnil ?_ | refine x_gcons ?_ | refine x_setF ?_ | refine x_for ?_ | refine x_raise ?_ | refine x_rz1 ?_ | refine x_rz0 ?_)
local macro_rules | `(tactic| walk_at "g1") => `(tactic| first
  | with_reducible refine x_iteT ?_ | with_reducible refine x_iteF ?_ | with_reducible refine x_tN ?_ | with_reducible refine x_tB ?_ | with_reducible refine x_tI ?_ | with_reducible refine x_tT ?_ | with_reducible refine x_tL ?_
  | with_reducible refine x_addI ?_ | with_reducible refine x_sub ?_ | with_reducible refine x_ltI ?_ | with_reducible refine x_leI ?_ | with_reducible refine x_gtI ?_ | with_reducible refine x_geI ?_ | with_reducible refine x_ltS ?_ | with_reducible refine x_leS ?_ | with_reducible refine x_gtS ?_ | with_reducible refine x_geS ?_
  | with_reducible refine x_eqI ?_ | with_reducible refine x_eqS ?_ | with_reducible refine x_eqB ?_ | with_reducible refine x_neI ?_ | with_reducible refine x_neS ?_ | with_reducible refine x_neB ?_ | with_reducible refine x_neg ?_
  | with_reducible refine x_inS ?_ | with_reducible refine x_notinS ?_ | with_reducible refine x_intI ?_ | with_reducible refine x_intB ?_ | with_reducible refine x_abs ?_ | with_reducible refine x_slL ?_ | with_reducible refine x_slT ?_ | with_reducible refine x_min2 ?_ | with_reducible refine x_max2 ?_
  | ((with_reducible refine x_is ?_ ?_); · rfl) | ((with_reducible refine x_isnot ?_ ?_); · rfl) | ((with_reducible refine x_isiD ?_ ?_ ?_); (next => rfl); (next => decide)) | ((with_reducible refine x_isiD2 ?_ ?_ ?_ ?_); (next => rfl); (next => decide); (next => decide)) | ((with_reducible refine x_name ?_ ?_); · exact of_decide_eq_true rfl) | ((with_reducible refine x_gtup ?_ ?_); · rfl))
local macro_rules | `(tactic| walk_at "d") => `(tactic| repeat (first | walk_at "e1" | walk_at "s1" | walk_at "g1" | ((with_reducible refine x_putL ?_ ?_); · rfl) | ((with_reducible refine x_szL ?_ ?_); · rfl) | dsimp only [List.set_cons_succ, List.set_cons_zero]))
local macro_rules | `(tactic| walk_at "i") => `(tactic| repeat (first | walk_at "e1" | walk_at "s1" | walk_at "g1" | ((with_reducible refine x_putL ?_ ?_); · rfl) | ((with_reducible refine x_szL ?_ ?_); · rfl) | ((with_reducible refine x_iteT2 ?_ ?_); · rfl) | ((with_reducible refine x_iteF2 ?_ ?_); · rfl) | dsimp only [List.set_cons_succ, List.set_cons_zero]))
local macro_rules | `(tactic| walk_at "g2") => `(tactic| with_reducible first | refine x_ixt0 ?_ | refine x_ixt1 ?_ | refine x_ixt2 ?_ | refine x_ixt3 ?_ | refine x_lenT ?_)
local macro_rules | `(tactic| walk_at "j") => `(tactic| repeat (first | walk_at "e1" | walk_at "s1" | walk_at "g1" | walk_at "g2" | ((with_reducible refine x_inTi ?_ ?_); · rfl) | ((with_reducible refine x_inTn ?_ ?_); · rfl) | ((with_reducible refine x_putL ?_ ?_); · rfl) | ((with_reducible refine x_szL ?_ ?_); · rfl) | ((with_reducible refine x_iteT2 ?_ ?_); · rfl) | ((with_reducible refine x_iteF2 ?_ ?_); · rfl) | dsimp only [List.set_cons_succ, List.set_cons_zero]))
/-! making machines -/
section
variable {KF : PySem.W.Frag} {S : Store} {K : KE} {XX : KX} {Kt : KE} {z : Str} {g : List (List Nat)} {s : Nat} {d sv av : Dat}
theorem make_sq (hz : isAlpha z = true) (hd : seqD (S ++ [.ins (He.ga KF "Machine") [] []]) d = some (g.map encRow)) (hn : d ≠ .cell S.length) (ok : okRows z.length g) (h0 : 0 < g.length) (hl : g.length ≤ 1000) (hs : s < g.length) (k : K (maD KF z g s) S) :
    sp_Machine_init KF [.cell S.length, .str z, d, natD s] (S ++ [.ins (He.ga KF "Machine") [] []]) (fun d S3 => d = .non ∧ ExitTo S K (.cell S.length) S3) XX := by
  obtain ⟨h4, _, _⟩ := alpha_len hz
  refine ⟨S.length, _, _, _, rfl, by simp, .made z g s rfl (by omega) hz hd h0 hl ok rfl hs hn ⟨rfl, ?_⟩⟩
  rw [List.set_append_right _ _ (by omega), Nat.sub_self, List.set_cons_zero]
  exact ⟨S, maD KF z g s, ⟨⟨[maD KF z g s], rfl⟩, Nat.le_refl _, .inl rfl⟩, .cell (Nat.le_refl _) (by simp) (.same ma_below), k⟩
theorem make_bad {e : Exc} (he : belows S.length e.xs) (hx : XX e S) (h : (XX2 : KX) → (XX2 e (S ++ [.ins (He.ga KF "Machine") [] []])) → MkMa KF (S ++ [.ins (He.ga KF "Machine") [] []]) S.length Kt XX2 av d sv) :
    sp_Machine_init KF [.cell S.length, av, d, sv] (S ++ [.ins (He.ga KF "Machine") [] []]) Kt (fun e S3 => ExitX S XX e [] S3) :=
  ⟨S.length, _, _, _, rfl, by simp, h _ (exitX_pure he hx)⟩
end
/-- data that is no row of width w below m -/
structure BadRow (w m : Nat) (v : Dat) : Prop where
  kind : ∀ S, okRowK S v
  bad : isRowB w m v = false
  bel : ∀ n, below n v
structure NoRows (v : Dat) : Prop where
  bad : ∀ S, notSeq S v ∨ seqD S v = some []
  bel : ∀ n, below n v
structure NoAlpha (v : Dat) : Prop where
  bad : ∀ S, badAlpha S v
  same : ∀ S n, SameD S (n + 1) v v
  bel : ∀ n, below n v
theorem like_kind {S : Store} {m : Nat} {v : Dat} (h : numLike m v) : okKind S v := by
  simp only [numLike, List.mem_cons, List.not_mem_nil, or_false] at h
  rcases h with rfl | rfl | rfl | rfl | rfl | rfl | rfl | rfl | rfl
  · exact ⟨"int", rfl, by decide⟩
  · exact ⟨"int", rfl, by decide⟩
  · exact ⟨"NoneType", rfl, by decide⟩
  · exact ⟨"bool", rfl, by decide⟩
  · exact ⟨"bool", rfl, by decide⟩
  · exact ⟨"str", rfl, by decide⟩
  · exact ⟨"list", rfl, by decide⟩
  · exact ⟨"tuple", rfl, by decide⟩
  · exact ⟨"int", rfl, by decide⟩
theorem like_bad {m : Nat} {v : Dat} (h : numLike m v) : isNumB 0 ((m : Int) - 1) v = false := by
  simp only [numLike, List.mem_cons, List.not_mem_nil, or_false] at h
  rcases h with rfl | rfl | rfl | rfl | rfl | rfl | rfl | rfl | rfl <;> (unfold isNumB) <;> (try rfl) <;> (simp; try omega)
abbrev natDs (g : List Nat) : List Dat := g.map fun (n : Nat) => Dat.int (n : Int)
theorem bad_mid {w m : Nat} {a b : List Nat} {x : Dat} (hx : numLike m x) (hl : a.length + b.length ≤ 1000) : BadRow w m (.tup (natDs a ++ [x] ++ natDs b)) := by
  refine ⟨fun S => ⟨⟨"tuple", rfl, by decide⟩, fun xs e => ?_⟩, ?_, fun n => ?_⟩
  · cases e
    refine ⟨by simp only [List.length_append, List.length_map, List.length_singleton]; omega, fun y hy => ?_⟩
    rcases List.mem_append.mp hy with hy | hy
    · rcases List.mem_append.mp hy with hy | hy
      · exact ints_kind a y hy
      · rw [List.mem_singleton.mp hy]; exact like_kind hx
    · exact ints_kind b y hy
  · have hb : (natDs a ++ [x] ++ natDs b).all (isNumB 0 ((m : Int) - 1)) = false := by
      refine List.all_eq_false.mpr ⟨x, by simp, ?_⟩
      rw [like_bad hx]; decide
    show (_ && _) = false
    rw [hb, Bool.and_false]
  · simp only [below]
    exact belows_app (belows_app (nats_below a) (by simp only [belows, and_true]; exact (no_state hx).bel n)) (nats_below b)
theorem bad_width {w m : Nat} {a : List Nat} (hl : a.length ≤ 1000) (h : a.length ≠ w) : BadRow w m (.tup (natDs a)) := by
  refine ⟨fun S => ⟨⟨"tuple", rfl, by decide⟩, fun xs e => ?_⟩, ?_, fun n => ?_⟩
  · cases e
    exact ⟨by rw [List.length_map]; omega, ints_kind a⟩
  · show (decide ((natDs a).length = w) && _) = false
    rw [decide_eq_false (by rw [List.length_map]; exact h)]; rfl
  · simp only [below]; exact nats_below a
theorem bad_lst {w m : Nat} {a : List Nat} : BadRow w m (.lst (natDs a)) := ⟨fun S => ⟨⟨"list", rfl, by decide⟩, fun xs e => by cases e⟩, rfl, fun n => by simp only [below]; exact nats_below a⟩
theorem bad_non {w m : Nat} : BadRow w m .non := ⟨fun S => ⟨⟨"NoneType", rfl, by decide⟩, fun xs e => by cases e⟩, rfl, fun n => by simp only [below]⟩
inductive All2 (P : Dat → Dat → Prop) : List Dat → List Dat → Prop where
  | nil : All2 P [] []
  | cons {a b : Dat} {xs ys : List Dat} (h : P a b) (r : All2 P xs ys) : All2 P (a :: xs) (b :: ys)
theorem All2.len {P : Dat → Dat → Prop} {xs ys : List Dat} (h : All2 P xs ys) : xs.length = ys.length := by
  induction h with
  | nil => rfl
  | cons _ _ ih => rw [List.length_cons, List.length_cons, ih]
theorem same_ls {S : Store} {n : Nat} {x y : Dat} {xs ys : List Dat} (hx : lstD S x = some xs) (hy : lstD S y = some ys) (hn : xs.length ≤ 1000000) (h : All2 (SameD S n) xs ys) : SameD S (n + 1) x y := by
  have szl : sizeLine = 16777216 := rfl
  refine .inr (.inr (.inr (.inr (.inr ⟨xs, ys, hx, hy, h.len, by omega, fun i a b e1 e2 => ?_⟩))))
  have key : ∀ {xs ys : List Dat}, All2 (SameD S n) xs ys → ∀ (i : Nat) a b, xs[i]? = some a → ys[i]? = some b → SameD S n a b := by
    intro xs ys h
    induction h with
    | nil => intro i a b e; cases e
    | cons h _ ih =>
      intro i a b e1 e2
      cases i with
      | zero => cases e1; cases e2; exact h
      | succ i => exact ih i a b e1 e2
  exact key h i a b e1 e2
theorem all2_self {S : Store} {n : Nat} : ∀ {xs : List Dat}, (∀ x ∈ xs, SameD S n x x) → All2 (SameD S n) xs xs
  | [], _ => .nil
  | x :: xs, h => .cons (h x List.mem_cons_self) (all2_self fun y hy => h y (List.mem_cons_of_mem _ hy))
theorem same_row {S : Store} {n : Nat} {r : List Nat} (hl : r.length ≤ 1000000) : SameD S (n + 2) (encRow r) (encRow r) := by
  have szl : sizeLine = 16777216 := rfl
  refine .inr (.inr (.inr (.inr (.inl ⟨_, _, rfl, rfl, rfl, by rw [List.length_map]; omega, fun i a b e1 e2 => ?_⟩))))
  rw [e1] at e2
  cases e2
  obtain ⟨q, _, rfl⟩ := List.mem_map.mp (List.mem_of_getElem? e1)
  exact same_int
theorem same_rows {S : Store} {n : Nat} {x y : Dat} {g : List (List Nat)} (hx : lstD S x = some (g.map encRow)) (hy : lstD S y = some (g.map encRow)) (hg : g.length ≤ 1000) (hr : ∀ r ∈ g, r.length ≤ 1000) : SameD S (n + 3) x y :=
  same_ls hx hy (by rw [List.length_map]; omega) (all2_self fun v hv => by
    obtain ⟨r, hr2, rfl⟩ := List.mem_map.mp hv
    exact same_row (by have := hr r hr2; omega))
theorem cut_rows_to {α : Type} (e : α → Dat) (g : List α) (i : Nat) : cutD (g.map e) none (some (i : Int)) = (g.take i).map e := by
  rw [cutD_map, cut_to]
theorem cut_rows_from {α : Type} (e : α → Dat) (g : List α) (i : Nat) : cutD (g.map e) (some (i : Int)) none = (g.drop i).map e := by
  rw [cutD_map, cut_from]
end DL
/-! SW: reachable states and their first words: promises. -/
namespace DL
open PySem L2
/-- a row's goals, each with its letter, are looked at -/
def bfsRow (w : Str) : List (Nat × Nat) → List (Nat × Str) → List (Nat × Str)
  | [], ps => ps
  | (q, c) :: r, ps => bfsRow w r (if q ∈ ps.map (·.1) then ps else ps ++ [(q, w ++ sgn c)])
def bfs (a : Str) (g : List (List Nat)) : Nat → Nat → List (Nat × Str) → List (Nat × Str)
  | 0, _, ps => ps
  | n + 1, i, ps => match ps[i]? with
    | none => ps
    | some (q, w) => bfs a g n (i + 1) (bfsRow w ((g.getD q []).zip a.cps.toList) ps)
def reachF (a : Str) (g : List (List Nat)) (s : Nat) : List (Nat × Str) := bfs a g (g.length + 1) 0 [(s, "")]
def kp (p : Nat × Str) : Key × Dat := (.inl (p.1 : Int), .str p.2)
def wordsD (ps : List (Nat × Str)) : Dat := dctD (ps.map kp)
def sp_first_words (K : PySem.W.Frag) : Spec := fun ds S Kt _ => ∃ (a : Str) (g : List (List Nat)) (s : Nat), ds = [.lst (g.map encRow), .lst [natD s], .str a] ∧ okRows a.length g ∧ a.length ≤ 4 ∧ s < g.length ∧ g.length ≤ 1000 ∧ Kt (wordsD (reachF a g s)) S
def sp_Machine_words_to_states (K : PySem.W.Frag) : Spec := fun ds S Kt _ => ∃ (d : Dat) (a : Str) (g : List (List Nat)) (s : Nat), ds = [d] ∧ isMa K S d a g s ∧ Kt (wordsD (reachF a g s)) S
def sp_Machine_reachable (K : PySem.W.Frag) : Spec := fun ds S Kt _ => ∃ (d : Dat) (a : Str) (g : List (List Nat)) (s : Nat), ds = [d] ∧ isMa K S d a g s ∧ g.length < 64 ∧ ∀ ys : List Int, ys.Perm ((reachF a g s).map fun p => (p.1 : Int)) → ys.Pairwise (· ≤ ·) → Kt (.cell S.length) (S ++ [.lst (ys.map Dat.int)])
def sp_Machine_first_word (K : PySem.W.Frag) : Spec := fun ds S Kt X => ∃ (d sv : Dat) (a : Str) (g : List (List Nat)) (s : Nat), ds = [d, sv] ∧ isMa K S d a g s ∧
  ((∃ q : Nat, sv = natD q ∧ q < g.length ∧ Kt ((valD ((reachF a g s).map kp) (.inl (q : Int))).getD .non) S) ∨ (notIn S sv g.length ∧ X (excG K "InvalidState" "given" sv) S))
def sp_law_reach (K : PySem.W.Frag) : Spec := fun ds S Kt _ => ∃ (a : Str) (g : List (List Nat)) (s : Nat), ds = [.lst (g.map encRow), .str a, natD s] ∧ okRows a.length g ∧ a.length ≤ 4 ∧ s < g.length ∧ g.length ≤ 1000 ∧ Kt (.lst ((reachF a g s).map fun p => pairD (kp p))) S
theorem len_first_words {K : PySem.W.Frag} {ds S Kt X} (h : sp_first_words K ds S Kt X) : ds.length = 3 := by obtain ⟨_, _, _, rfl, _⟩ := h; rfl
theorem len_Machine_words_to_states {K : PySem.W.Frag} {ds S Kt X} (h : sp_Machine_words_to_states K ds S Kt X) : ds.length = 1 := by obtain ⟨_, _, _, _, rfl, _⟩ := h; rfl
theorem len_Machine_reachable {K : PySem.W.Frag} {ds S Kt X} (h : sp_Machine_reachable K ds S Kt X) : ds.length = 1 := by obtain ⟨_, _, _, _, rfl, _⟩ := h; rfl
theorem len_Machine_first_word {K : PySem.W.Frag} {ds S Kt X} (h : sp_Machine_first_word K ds S Kt X) : ds.length = 2 := by obtain ⟨_, _, _, _, _, rfl, _⟩ := h; rfl
theorem len_law_reach {K : PySem.W.Frag} {ds S Kt X} (h : sp_law_reach K ds S Kt X) : ds.length = 3 := by obtain ⟨_, _, _, rfl, _⟩ := h; rfl
def u_first_words (K : PySem.W.Frag) : US :=
  (uSeq (uSet 3 (uCB gDictP (uCons (uLc (uSeqI (uVar 1)) [6] (uName 6) uYes (uTup (uCons (uVar 6) (uCons (uC (.str "")) uNil)))) uNil)))
    (uSeq (uSet 4 (uCB gListC (uCons (uVar 1) uNil)))
    (uSeq (uSet 5 (uC (.int 0)))
    (uSeq (uWhile (uTest (uOp gLt (uVar 5) (uCB gLen (uCons (uVar 4) uNil)))) (uSeq (uSet 6 (uOp gIx (uVar 4) (uVar 5)))
    (uSeq (uSet 5 (uOp gAdd (uVar 5) (uC (.int 1))))
    (uFor (uZ (uCons (uOp gIx (uVar 0) (uVar 6)) (uCons (uVar 2) uNil))) (uGTup 2 (uGCons (uName 7) (uGCons (uName 8) uGNil))) (uIfS (uTest (uOp (gDI (!·)) (uVar 7) (uVar 3))) (uSeq (uAsg (uOp gAdd (uOp gDG (uVar 3) (uVar 6)) (uVar 8)) (uGSub (uVar 3) (uVar 7) gDP))
    (uDrop (uBM "list" gAppend (uVar 4) (uCons (uVar 7) uNil)))) uNext)))))
    (uRet (uVar 3))))))
def u_Machine_words_to_states (K : PySem.W.Frag) : US :=
  (uRet (uCall (sp_first_words K) [] (uCons (uFld [He.ga K "Machine"] "own_rows" (uVar 0)) (uCons (uLst (uCons (uFld [He.ga K "Machine"] "own_start" (uVar 0)) uNil)) (uCons (uFld [He.ga K "Machine"] "own_alphabet" (uVar 0)) uNil)))))
def u_Machine_reachable (K : PySem.W.Frag) : US :=
  (uRet (uCB (gSortD true) (uCons (uMeth [(He.ga K "Machine", sp_Machine_words_to_states K)] "words_to_states" [] (uVar 0) uNil) uNil)))
def u_Machine_first_word (K : PySem.W.Frag) : US :=
  (uSeq (uDrop (uMeth [(He.ga K "Machine", sp_Machine_need_state K)] "need_state" [] (uVar 0) (uCons (uVar 1) uNil)))
    (uRet (uDGet (uMeth [(He.ga K "Machine", sp_Machine_words_to_states K)] "words_to_states" [] (uVar 0) uNil) (uVar 1))))
def u_law_reach (K : PySem.W.Frag) : US :=
  (uSeq (uPar 3 4 (uCons (uLstC (uCons (uTup (uCons (uVar 2) (uCons (uC (.str "")) uNil))) uNil)) (uCons (uC (.int 0)) uNil)))
    (uSeq (uWhile (uTest (uOp gLt (uVar 4) (uCB gLen (uCons (uVar 3) uNil)))) (uSeq (uAsg (uOp gIx (uVar 3) (uVar 4)) (uGTup 2 (uGCons (uName 5) (uGCons (uName 6) uGNil))))
    (uSeq (uSet 4 (uOp gAdd (uVar 4) (uC (.int 1))))
    (uFor (uR1 (uCons (uCB gLen (uCons (uVar 1) uNil)) uNil)) (uName 7) (uIfS (uTest (uOp (gIn (!·)) (uOp gIx (uOp gIx (uVar 0) (uVar 5)) (uVar 7)) (uLc (uSeqI (uVar 3)) [8, 9] (uGTup 2 (uGCons (uName 8) (uGCons (uName 9) uGNil))) uYes (uVar 8)))) (uDrop (uBM "list" gAppend (uVar 3) (uCons (uTup (uCons (uOp gIx (uOp gIx (uVar 0) (uVar 5)) (uVar 7)) (uCons (uOp gAdd (uVar 6) (uOp gIx (uVar 1) (uVar 7))) uNil))) uNil))) uNext)))))
    (uRet (uVar 3))))
end DL
/-! RW1: the plain law of the search. -/
namespace DL
open PySem L2
theorem nodup_lt : ∀ (m : Nat) (l : List Nat), l.Nodup → (∀ x ∈ l, x < m) → l.length ≤ m
  | 0, [], _, _ => Nat.le_refl _
  | 0, x :: _, _, h => absurd (h x List.mem_cons_self) (Nat.not_lt_zero _)
  | m + 1, l, nd, h => by
    have h1 := nodup_lt m (l.erase m) (nd.erase m) (fun x hx => by
      obtain ⟨h2, h3⟩ := nd.mem_erase_iff.mp hx
      have := h x h3
      omega)
    by_cases e : m ∈ l
    · have := List.length_erase_of_mem e
      omega
    · rw [List.erase_of_not_mem e] at h1
      omega
structure BOk (m : Nat) (ps : List (Nat × Str)) : Prop where
  nd : (ps.map (·.1)).Nodup
  lt : ∀ p ∈ ps, p.1 < m
  wl : ∀ p ∈ ps, p.2.length < ps.length
theorem BOk.len {m : Nat} {ps : List (Nat × Str)} (h : BOk m ps) : ps.length ≤ m := by
  have := nodup_lt m (ps.map (·.1)) h.nd fun x hx => by
    obtain ⟨p, hp, rfl⟩ := List.mem_map.mp hx
    exact h.lt p hp
  rwa [List.length_map] at this
theorem str_appL (a b : Str) : (a ++ b).length = a.length + b.length := by
  rw [← cps_len, ← cps_len, ← cps_len]
  show (a.cps ++ b.cps).toList.length = _
  rw [Array.toList_append, List.length_append]
theorem sgn_len (c : Nat) : (sgn c).length = 1 := rfl
theorem BOk.snoc {m q c : Nat} {w : Str} {ps : List (Nat × Str)} (h : BOk m ps) (hw : w.length < ps.length) (hq : q < m) (hn : q ∉ ps.map (·.1)) : BOk m (ps ++ [(q, w ++ sgn c)]) := by
  refine ⟨?_, fun p hp => ?_, fun p hp => ?_⟩
  · rw [List.map_append, List.nodup_append]
    refine ⟨h.nd, by simp, fun x hx y hy => ?_⟩
    simp only [List.map_cons, List.map_nil, List.mem_singleton] at hy
    rw [hy]
    exact fun z => hn (z ▸ hx)
  · rcases List.mem_append.mp hp with hp | hp
    · exact h.lt p hp
    · rw [List.mem_singleton.mp hp]; exact hq
  · rw [List.length_append, List.length_singleton]
    rcases List.mem_append.mp hp with hp | hp
    · have := h.wl p hp; omega
    · rw [List.mem_singleton.mp hp]
      show (w ++ sgn c).length < _
      rw [str_appL, sgn_len]; omega
theorem bfsRow_snoc (w : Str) : ∀ (r : List (Nat × Nat)) (x : Nat × Nat) (ps : List (Nat × Str)), bfsRow w (r ++ [x]) ps = (if x.1 ∈ (bfsRow w r ps).map (·.1) then bfsRow w r ps else bfsRow w r ps ++ [(x.1, w ++ sgn x.2)])
  | [], (q, c), ps => rfl
  | (q, c) :: r, x, ps => bfsRow_snoc w r x _
theorem bfsRow_ok {m : Nat} {w : Str} : ∀ {r : List (Nat × Nat)} {ps : List (Nat × Str)}, BOk m ps → w.length < ps.length → (∀ x ∈ r, x.1 < m) → BOk m (bfsRow w r ps) ∧ ∃ t, bfsRow w r ps = ps ++ t
  | [], ps, h, _, _ => ⟨h, [], by simp [bfsRow]⟩
  | (q, c) :: r, ps, h, hw, hr => by
    unfold bfsRow
    by_cases e : q ∈ ps.map (·.1)
    · rw [if_pos e]
      exact bfsRow_ok h hw fun x hx => hr x (List.mem_cons_of_mem _ hx)
    · rw [if_neg e]
      obtain ⟨h1, t, h2⟩ := bfsRow_ok (r := r) (h.snoc hw (hr (q, c) List.mem_cons_self) e) (show w.length < (ps ++ [(q, w ++ sgn c)]).length by rw [List.length_append, List.length_singleton]; omega) fun x hx => hr x (List.mem_cons_of_mem _ hx)
      exact ⟨h1, _, by rw [h2, List.append_assoc]⟩
theorem bfs_end {a : Str} {g : List (List Nat)} {n i : Nat} {ps : List (Nat × Str)} (h : ps.length ≤ i) : bfs a g n i ps = ps := by
  cases n with
  | zero => rfl
  | succ n =>
    unfold bfs
    rw [List.getElem?_eq_none h]
theorem bfs_step {a : Str} {g : List (List Nat)} {n i q : Nat} {w : Str} {ps : List (Nat × Str)} (h : ps[i]? = some (q, w)) : bfs a g (n + 1) i ps = bfs a g n (i + 1) (bfsRow w ((g.getD q []).zip a.cps.toList) ps) := by
  rw [bfs, h]
/-- one finds what is kept -/
theorem val_at : ∀ {ps : List (Nat × Str)} {q : Nat} {w : Str}, (ps.map (·.1)).Nodup → (q, w) ∈ ps → valD (ps.map kp) (.inl (q : Int)) = some (.str w)
  | [], _, _, _, h => by cases h
  | (j, v) :: ps, q, w, nd, h => by
    rw [List.map_cons, List.nodup_cons] at nd
    have e0 : valD (((j, v) :: ps).map kp) (.inl (q : Int)) = if j = q then some (.str v) else valD (ps.map kp) (.inl (q : Int)) := by
      unfold valD
      rw [List.map_cons, List.find?_cons]
      by_cases e : j = q
      · rw [if_pos e]
        rw [show decide ((kp (j, v)).1 = (Sum.inl (q : Int) : Key)) = true by simp [kp, e]]
        rfl
      · rw [if_neg e]
        rw [show decide ((kp (j, v)).1 = (Sum.inl (q : Int) : Key)) = false by simp [kp]; omega]
    rw [e0]
    rcases List.mem_cons.mp h with h | h
    · cases h; rw [if_pos rfl]
    · have : j ≠ q := fun e => nd.1 (List.mem_map.mpr ⟨(q, w), h, e.symm⟩)
      rw [if_neg this]
      exact val_at nd.2 h
theorem any_kp {q : Nat} : ∀ {ps : List (Nat × Str)}, ((ps.map kp).any fun p => decide (p.1 = (Sum.inl (q : Int) : Key))) = decide (q ∈ ps.map (·.1))
  | [] => by simp
  | (j, v) :: ps => by
    rw [List.map_cons, List.any_cons, any_kp]
    rw [show decide ((kp (j, v)).1 = (Sum.inl (q : Int) : Key)) = decide (j = q) by
      by_cases e : j = q
      · simp [kp, e]
      · rw [decide_eq_false e]; simp [kp]; omega]
    by_cases e : j = q
    · simp [e]
    · by_cases e2 : q ∈ ps.map (·.1)
      · simp only [List.map_cons, List.mem_cons, e2, or_true, decide_true, Bool.or_true]
      · rw [decide_eq_false e2, decide_eq_false e]
        symm
        rw [Bool.or_false]
        refine decide_eq_false fun z => ?_
        rcases List.mem_cons.mp z with z | z
        · exact e z.symm
        · exact e2 z
theorem val_some {q : Nat} {ps : List (Nat × Str)} : (valD (ps.map kp) (.inl (q : Int))).isSome = decide (q ∈ ps.map (·.1)) := by
  rw [← any_kp]
  unfold valD
  rw [Option.isSome_map]
  induction ps.map kp with
  | nil => rfl
  | cons p r ih =>
    rw [List.find?_cons, List.any_cons]
    cases e : decide (p.1 = (Sum.inl (q : Int) : Key)) with
    | true => rfl
    | false => rw [ih]; rfl
theorem put_new {q : Nat} {v : Str} {ps : List (Nat × Str)} (h : q ∉ ps.map (·.1)) : putD (ps.map kp) (.inl (q : Int)) (.str v) = (ps ++ [(q, v)]).map kp := by
  unfold putD
  rw [any_kp, decide_eq_false h]
  simp [kp]
theorem reach_ok {a : Str} {g : List (List Nat)} {m : Nat} (hg : m = g.length) (ok : okRows a.length g) : ∀ {n i : Nat} {ps : List (Nat × Str)}, BOk m ps → BOk m (bfs a g n i ps)
  | 0, i, ps, h => h
  | n + 1, i, ps, h => by
    unfold bfs
    cases e : ps[i]? with
    | none => exact h
    | some p =>
      obtain ⟨q, w⟩ := p
      have hm := List.mem_of_getElem? e
      refine reach_ok hg ok (bfsRow_ok h (h.wl _ hm) fun x hx => ?_).1
      have hq := h.lt _ hm
      obtain ⟨h1, h2⟩ := ok g[q] (List.getElem_mem (by omega))
      have e0 : g.getD q [] = g[q]'(by omega) := by simp [List.getD, List.getElem?_eq_getElem (show q < g.length by omega)]
      rw [e0] at hx
      have := h2 x.1 (List.of_mem_zip hx).1
      omega
theorem start_ok {m s : Nat} (h : s < m) : BOk m [(s, "")] := ⟨by simp, fun p hp => by rw [List.mem_singleton.mp hp]; exact h, fun p hp => by rw [List.mem_singleton.mp hp]; exact Nat.le_of_ble_eq_true rfl⟩
end DL
namespace DL
open PySem L2
local macro_rules | `(tactic| walk_at "e1") => `(tactic| with_reducible first
  | refine x_var rfl ?_ | refine x_c ?_ | refine x_op ?_ | refine x_un ?_ | refine x_nil ?_ | refine x_cons ?_ | refine x_tup ?_ | refine x_lst ?_ | refine x_lstC ?_ | refine x_cb ?_ | refine x_call ?_ | refine x_if ?_
  | refine x_test ?_ | refine x_and ?_ | refine x_or ?_ | refine x_not ?_ | refine x_tru ?_ | refine x_andV ?_ | refine x_orV ?_ | refine x_notV ?_ | refine x_yes ?_ | refine x_chain ?_
  | refine x_bm ?_ | refine x_bm0 ?_ | refine x_part ?_ | refine x_no ?_ | refine x_sl ?_ | refine x_seqI ?_ | refine x_r1 ?_ | refine x_r2 ?_ | refine x_z ?_ | refine x_lc ?_ | refine x_lcC ?_ | refine x_lcW ?_ | refine x_fld ?_ | refine x_meth ?_ | refine x_prop ?_ | refine x_make ?_ | refine x_en ?_ | refine x_makeK ?_ | refine x_joined ?_ | refine x_jn ?_ | refine x_jc ?_ | refine x_enK ?_ | refine x_dget ?_ | refine x_give ?_ | refine x_lam ?_)
local macro_rules | `(tactic| walk_at "s1") => `(tactic| with_reducible first
  | refine x_seq ?_ | refine x_next ?_ | refine x_break ?_ | refine x_cont ?_ | refine x_drop ?_ | refine x_ret ?_ | refine x_retN ?_ | refine x_ifS ?_ | refine x_set ?_ | refine x_asg ?_ | refine x_par ?_ | refine x_gsub ?_ | refine x_gnil ?_ | refine x_gcons ?_ | refine x_setF ?_ | refine x_for ?_ | refine x_raise ?_ | refine x_rz1 ?_ | refine x_rz0 ?_)
local macro_rules | `(tactic| walk_at "g1") => `(tactic| first
  | with_reducible refine x_iteT ?_ | with_reducible refine x_iteF ?_ | with_reducible refine x_tN ?_ | with_reducible refine x_tB ?_ | with_reducible refine x_tI ?_ | with_reducible refine x_tT ?_ | with_reducible refine x_tL ?_
  | with_reducible refine x_addI ?_ | with_reducible refine x_sub ?_ | with_reducible refine x_ltI ?_ | with_reducible refine x_leI ?_ | with_reducible refine x_gtI ?_ | with_reducible refine x_geI ?_ | with_reducible refine x_ltS ?_ | with_reducible refine x_leS ?_ | with_reducible refine x_gtS ?_ | with_reducible refine x_geS ?_
  | with_reducible refine x_eqI ?_ | with_reducible refine x_eqS ?_ | with_reducible refine x_eqB ?_ | with_reducible refine x_neI ?_ | with_reducible refine x_neS ?_ | with_reducible refine x_neB ?_ | with_reducible refine x_neg ?_
  | with_reducible refine x_inS ?_ | with_reducible refine x_notinS ?_ | with_reducible refine x_intI ?_ | with_reducible refine x_intB ?_ | with_reducible refine x_abs ?_ | with_reducible refine x_slL ?_ | with_reducible refine x_slT ?_ | with_reducible refine x_min2 ?_ | with_reducible refine x_max2 ?_
  | ((with_reducible refine x_is ?_ ?_); · rfl) | ((with_reducible refine x_isnot ?_ ?_); · rfl) | ((with_reducible refine x_isiD ?_ ?_ ?_); (next => rfl); (next => decide)) | ((with_reducible refine x_isiD2 ?_ ?_ ?_ ?_); (next => rfl); (next => decide); (next => decide)) | ((with_reducible refine x_name ?_ ?_); · exact of_decide_eq_true rfl) | ((with_reducible refine x_gtup ?_ ?_); · rfl))
local macro_rules | `(tactic| walk_at "d") => `(tactic| repeat (first | walk_at "e1" | walk_at "s1" | walk_at "g1" | ((with_reducible refine x_putL ?_ ?_); · rfl) | ((with_reducible refine x_szL ?_ ?_); · rfl) | dsimp only [List.set_cons_succ, List.set_cons_zero]))
local macro_rules | `(tactic| walk_at "i") => `(tactic| repeat (first | walk_at "e1" | walk_at "s1" | walk_at "g1" | ((with_reducible refine x_putL ?_ ?_); · rfl) | ((with_reducible refine x_szL ?_ ?_); · rfl) | ((with_reducible refine x_iteT2 ?_ ?_); · rfl) | ((with_reducible refine x_iteF2 ?_ ?_); · rfl) | dsimp only [List.set_cons_succ, List.set_cons_zero]))
local macro_rules | `(tactic| walk_at "g2") => `(tactic| with_reducible first | refine x_ixt0 ?_ | refine x_ixt1 ?_ | refine x_ixt2 ?_ | refine x_ixt3 ?_ | refine x_lenT ?_)
local macro_rules | `(tactic| walk_at "j") => `(tactic| repeat (first | walk_at "e1" | walk_at "s1" | walk_at "g1" | walk_at "g2" | ((with_reducible refine x_inTi ?_ ?_); · rfl) | ((with_reducible refine x_inTn ?_ ?_); · rfl) | ((with_reducible refine x_putL ?_ ?_); · rfl) | ((with_reducible refine x_szL ?_ ?_); · rfl) | ((with_reducible refine x_iteT2 ?_ ?_); · rfl) | ((with_reducible refine x_iteF2 ?_ ?_); · rfl) | dsimp only [List.set_cons_succ, List.set_cons_zero]))
section
variable {S : Store} {x y z : Dat}
theorem st2a : (S ++ [x, y])[S.length]? = some x := by simp
theorem st2b : (S ++ [x, y])[S.length + 1]? = some y := by rw [List.getElem?_append_right (by omega), show S.length + 1 - S.length = 1 by omega]; rfl
theorem st2sa : (S ++ [x, y]).set S.length z = S ++ [z, y] := by rw [List.set_append_right _ _ (by omega), Nat.sub_self]; rfl
theorem st2sb : (S ++ [x, y]).set (S.length + 1) z = S ++ [x, z] := by rw [List.set_append_right _ _ (by omega), show S.length + 1 - S.length = 1 by omega]; rfl
theorem st1a : (S ++ [x])[S.length]? = some x := by simp
theorem st1sa : (S ++ [x]).set S.length z = S ++ [z] := by rw [List.set_append_right _ _ (by omega), Nat.sub_self]; rfl
end
theorem inF_nat (c : Nat) (cs : List Nat) : inF (natD c) (cs.map fun (c : Nat) => natD c) = some (decide (c ∈ cs)) := by
  have h : (cs.map fun (c : Nat) => natD c).mapM flat? = some (cs.map fun (c : Nat) => V.int (c : Int)) := by
    induction cs with
    | nil => rfl
    | cons a r ih => rw [List.map_cons, List.mapM_cons, ih]; rfl
  unfold inF
  rw [h]
  show some (inV _ _) = _
  congr 1
  unfold inV
  rw [List.any_map]
  have key : ∀ a : Nat, eqV (.int (a : Int)) (.int (c : Int)) = decide (a = c) := fun a => by
    show decide ((a : Int) = (c : Int)) = decide (a = c)
    by_cases e : a = c
    · subst e; simp
    · rw [decide_eq_false e, decide_eq_false (by omega)]
  induction cs with
  | nil => rfl
  | cons a r ih =>
    rw [List.any_cons, ih (by
      have := h
      rw [List.map_cons, List.mapM_cons] at this
      cases e : (r.map fun (c : Nat) => natD c).mapM flat? with
      | none => rw [e] at this; cases this
      | some q =>
        rw [e] at this
        injection this with this
        injection this with _ this
        rw [this])]
    rw [show ((fun x => eqV x (V.int (c : Int))) ∘ fun (c : Nat) => V.int (c : Int)) a = decide (a = c) from key a]
    by_cases e : a = c
    · simp [e]
    · by_cases e2 : c ∈ r
      · simp [e2]
      · rw [decide_eq_false e, decide_eq_false e2]; symm
        refine decide_eq_false fun z => ?_
        rcases List.mem_cons.mp z with z | z
        · exact e z.symm
        · exact e2 z
def keysN (ps : List (Nat × Str)) : List Dat := ps.map fun p => natD p.1
theorem isT_list {S : Store} {n : Nat} {xs : List Dat} (h : S[n]? = some (.lst xs)) : isT "list" S (.cell n) := ⟨rfl, by
  show (match view S (.cell n) with
      | some (.lst xs) => some xs
      | _ => none).isSome = true
  simp only [view, h]; rfl⟩
theorem words_below {n : Nat} (ps : List (Nat × Str)) : below n (wordsD ps) := by
  unfold wordsD dctD
  simp only [below]
  induction ps with
  | nil => simp only [List.map_nil, belows]
  | cons p r ih => simp only [List.map_cons, belows, kp, below, true_and]; exact ih
theorem zip_lt {a : Str} {g : List (List Nat)} (ok : okRows a.length g) {q : Nat} (hq : q < g.length) : ∀ x ∈ (g.getD q []).zip a.cps.toList, x.1 < g.length := fun x hx => by
  have e0 : g.getD q [] = g[q] := by simp [List.getD, List.getElem?_eq_getElem hq]
  rw [e0] at hx
  exact (ok g[q] (List.getElem_mem hq)).2 x.1 (List.of_mem_zip hx).1
theorem r_first_words {KF : PySem.W.Frag} {ds S K X} (h : sp_first_words KF ds S K X) (hb : belows S.length ds) (hS : belows S.length S) : u_first_words KF (endsOf S K X) (startD ["rows", "starts", "letters", "found", "waiting", "at", "place", "goal", "letter"] ds) S := by
  obtain ⟨a, g, s, rfl, ok, ha, hs, hg, k⟩ := h
  have szl : sizeLine = 16777216 := rfl
  show u_first_words KF (endsOf S K X) [some (.lst (g.map encRow)), some (.lst [natD s]), some (.str a), none, none, none, none, none, none] S
  unfold u_first_words
  walk_at "j"
  refine ⟨_, rfl, ?_⟩
  refine lc_M [s] (fun (n : Nat) => natD n) (f := fun n => .tup [natD n, .str ""]) rfl (Nat.le_of_ble_eq_true rfl) (fun n hn Kt Kf hk => ?_) ?_
  · dsimp only [wipeD, List.set_cons_succ, List.set_cons_zero]
    walk_at "j"
    exact hk
  walk_at "j"
  refine ⟨[kp (s, "")], rfl, ?_⟩
  walk_at "j"
  refine x_listC (xs := [natD s]) rfl ?_
  walk_at "j"
  rw [List.append_assoc, show (S ++ [dctD (mergeD [] [kp (s, "")])]).length = S.length + 1 by simp]
  refine ⟨fun m dl1 S1 => ∃ (i : Nat) (ps : List (Nat × Str)) (x6 x7 x8 : Option Dat), dl1 = [some (.lst (g.map encRow)), some (.lst [natD s]), some (.str a), some (.cell S.length), some (.cell (S.length + 1)), some (natD i), x6, x7, x8] ∧ S1 = S ++ [wordsD ps, .lst (keysN ps)] ∧ BOk g.length ps ∧ i ≤ ps.length ∧ m = g.length + 1 - i ∧ bfs a g m i ps = reachF a g s, ⟨g.length + 1, 0, [(s, "")], _, _, _, rfl, rfl, start_ok hs, Nat.zero_le _, rfl, rfl⟩, ?_⟩
  rintro m dl1 S1 ⟨i, ps, x6, x7, x8, rfl, rfl, bo, hi, rfl, hr⟩
  have hl := bo.len
  walk_at "j"
  refine x_lenL (xs := keysN ps) (by simp only [seqD, st2b]) ?_
  walk_at "j"
  rw [show (keysN ps).length = ps.length by simp [keysN]]
  refine x_ite (fun e => ?_) (fun e => ?_)
  · have e : i < ps.length := by have := of_decide_eq_true e; omega
    obtain ⟨q, w⟩ : Nat × Str := ps[i]
    have hp : ∃ q w, ps[i]? = some (q, w) := ⟨_, _, List.getElem?_eq_getElem e⟩
    clear q w
    obtain ⟨q, w, hp⟩ := hp
    have hm := List.mem_of_getElem? hp
    have hq : q < g.length := bo.lt _ hm
    have hw : w.length < ps.length := bo.wl _ hm
    walk_at "j"
    refine x_ixn (xs := keysN ps) (by simp only [seqD, st2b]) (y := natD q) (by simp only [keysN, List.getElem?_map, hp]; rfl) ?_
    walk_at "j"
    refine x_ixn rfl (row_get hq) ?_
    walk_at "j"
    refine ⟨natDs (g.getD q []), a.cps.toList.map fun c => .str (sgn c), rfl, rfl, ?_⟩
    rw [pairs_map]
    have hz := zip_lt ok hq
    have hfu : g.length + 1 - i = (g.length + 1 - (i + 1)) + 1 := by omega
    rw [hfu, bfs_step hp] at hr
    refine for_T ((g.getD q []).zip a.cps.toList) _ (fun pre dl1 S2 => ∃ x7 x8, dl1 = [some (.lst (g.map encRow)), some (.lst [natD s]), some (.str a), some (.cell S.length), some (.cell (S.length + 1)), some (natD (i + 1)), some (natD q), x7, x8] ∧ S2 = S ++ [wordsD (bfsRow w pre ps), .lst (keysN (bfsRow w pre ps))]) ?_ ?_ ?_ ?_
    · exact ⟨_, _, rfl, rfl⟩
    · intros; exact ⟨rfl, rfl⟩
    · rintro pre ⟨qq, c⟩ rest dl1 S2 hx ⟨x7, x8, rfl, rfl⟩
      have hpre : ∀ x ∈ pre, x.1 < g.length := fun x hx2 => hz x (by rw [hx]; exact List.mem_append_left _ hx2)
      obtain ⟨bo2, t, ht⟩ := bfsRow_ok (r := pre) bo hw hpre
      have hl2 := bo2.len
      have hmem : (q, w) ∈ bfsRow w pre ps := by rw [ht]; exact List.mem_append_left _ hm
      walk_at "j"
      refine x_di (ps := (bfsRow w pre ps).map kp) (k := .inl (qq : Int)) (by show view (S ++ [wordsD (bfsRow w pre ps), _]) (.cell S.length) = _; simp only [view, st2a]; rfl) rfl ?_
      walk_at "j"
      rw [val_some]
      refine x_ite (fun e => ?_) (fun e => ?_)
      · have e : qq ∉ (bfsRow w pre ps).map (·.1) := by simpa using e
        walk_at "j"
        refine x_dg (ps := (bfsRow w pre ps).map kp) (k := .inl (q : Int)) (d := .str w) (by simp only [view, st2a]; rfl) rfl (val_at bo2.nd hmem) ?_
        walk_at "j"
        refine x_addS (by rw [sgn_len]; omega) ?_
        walk_at "j"
        refine x_dp (ps := (bfsRow w pre ps).map kp) (k := .inl (qq : Int)) (by rw [st2a]; rfl) rfl (by rw [List.length_map]; omega) ?_
        rw [st2sa, put_new e]
        walk_at "j"
        refine ⟨isT_list st2b, ?_⟩
        walk_at "j"
        refine x_append st2b (by simp only [keysN, List.length_map]; omega) ?_
        rw [st2sb]
        walk_at "j"
        refine .inl ⟨_, _, rfl, ?_⟩
        rw [bfsRow_snoc, if_neg e, show keysN (bfsRow w pre ps ++ [(qq, w ++ sgn c)]) = keysN (bfsRow w pre ps) ++ [natD qq] by simp [keysN]]
        rfl
      · have e : qq ∈ (bfsRow w pre ps).map (·.1) := by simpa using e
        walk_at "j"
        refine .inl ⟨_, _, rfl, ?_⟩
        rw [bfsRow_snoc, if_pos e]
    · rintro dl1 S2 ⟨x7, x8, rfl, rfl⟩
      obtain ⟨bo2, t, ht⟩ := bfsRow_ok (r := (g.getD q []).zip a.cps.toList) bo hw hz
      refine .inl ⟨g.length + 1 - (i + 1), by omega, i + 1, _, _, _, _, rfl, rfl, bo2, by rw [ht, List.length_append]; omega, rfl, hr⟩
  · have e : ps.length ≤ i := by have := of_decide_eq_false e; omega
    rw [bfs_end e] at hr
    walk_at "j"
    rw [hr]
    exact ⟨S, wordsD (reachF a g s), ⟨⟨_, rfl⟩, Nat.le_refl _, .inl rfl⟩, .cell (Nat.le_refl _) st2a (.same (words_below _)), k⟩
end DL
namespace DL
open PySem L2
local macro_rules | `(tactic| walk_at "e1") => `(tactic| with_reducible first
  | refine x_var rfl ?_ | refine x_c ?_ | refine x_op ?_ | refine x_un ?_ | refine x_nil ?_ | refine x_cons ?_ | refine x_tup ?_ | refine x_lst ?_ | refine x_lstC ?_ | refine x_cb ?_ | refine x_call ?_ | refine x_if ?_
  | refine x_test ?_ | refine x_and ?_ | refine x_or ?_ | refine x_not ?_ | refine x_tru ?_ | refine x_andV ?_ | refine x_orV ?_ | refine x_notV ?_ | refine x_yes ?_ | refine x_chain ?_
  | refine x_bm ?_ | refine x_bm0 ?_ | refine x_part ?_ | refine x_no ?_ | refine x_sl ?_ | refine x_seqI ?_ | refine x_r1 ?_ | refine x_r2 ?_ | refine x_z ?_ | refine x_lc ?_ | refine x_lcC ?_ | refine x_lcW ?_ | refine x_fld ?_ | refine x_meth ?_ | refine x_prop ?_ | refine x_make ?_ | refine x_en ?_ | refine x_makeK ?_ | refine x_joined ?_ | refine x_jn ?_ | refine x_jc ?_ | refine x_enK ?_ | refine x_dget ?_ | refine x_give ?_ | refine x_lam ?_)
local macro_rules | `(tactic| walk_at "s1") => `(tactic| with_reducible first
  | refine x_seq ?_ | refine x_next ?_ | refine x_break ?_ | refine x_cont ?_ | refine x_drop ?_ | refine x_ret ?_ | refine x_retN ?_ | refine x_ifS ?_ | refine x_set ?_ | refine x_asg ?_ | refine x_par ?_ | refine x_gsub ?_ | refine x_gnil ?_ | refine x_gcons ?_ | refine x_setF ?_ | refine x_for ?_ | refine x_raise ?_ | refine x_rz1 ?_ | refine x_rz0 ?_)
local macro_rules | `(tactic| walk_at "g1") => `(tactic| first
  | with_reducible refine x_iteT ?_ | with_reducible refine x_iteF ?_ | with_reducible refine x_tN ?_ | with_reducible refine x_tB ?_ | with_reducible refine x_tI ?_ | with_reducible refine x_tT ?_ | with_reducible refine x_tL ?_
  | with_reducible refine x_addI ?_ | with_reducible refine x_sub ?_ | with_reducible refine x_ltI ?_ | with_reducible refine x_leI ?_ | with_reducible refine x_gtI ?_ | with_reducible refine x_geI ?_ | with_reducible refine x_ltS ?_ | with_reducible refine x_leS ?_ | with_reducible refine x_gtS ?_ | with_reducible refine x_geS ?_
  | with_reducible refine x_eqI ?_ | with_reducible refine x_eqS ?_ | with_reducible refine x_eqB ?_ | with_reducible refine x_neI ?_ | with_reducible refine x_neS ?_ | with_reducible refine x_neB ?_ | with_reducible refine x_neg ?_
  | with_reducible refine x_inS ?_ | with_reducible refine x_notinS ?_ | with_reducible refine x_intI ?_ | with_reducible refine x_intB ?_ | with_reducible refine x_abs ?_ | with_reducible refine x_slL ?_ | with_reducible refine x_slT ?_ | with_reducible refine x_min2 ?_ | with_reducible refine x_max2 ?_
  | ((with_reducible refine x_is ?_ ?_); · rfl) | ((with_reducible refine x_isnot ?_ ?_); · rfl) | ((with_reducible refine x_isiD ?_ ?_ ?_); (next => rfl); (next => decide)) | ((with_reducible refine x_isiD2 ?_ ?_ ?_ ?_); (next => rfl); (next => decide); (next => decide)) | ((with_reducible refine x_name ?_ ?_); · exact of_decide_eq_true rfl) | ((with_reducible refine x_gtup ?_ ?_); · rfl))
local macro_rules | `(tactic| walk_at "d") => `(tactic| repeat (first | walk_at "e1" | walk_at "s1" | walk_at "g1" | ((with_reducible refine x_putL ?_ ?_); · rfl) | ((with_reducible refine x_szL ?_ ?_); · rfl) | dsimp only [List.set_cons_succ, List.set_cons_zero]))
local macro_rules | `(tactic| walk_at "i") => `(tactic| repeat (first | walk_at "e1" | walk_at "s1" | walk_at "g1" | ((with_reducible refine x_putL ?_ ?_); · rfl) | ((with_reducible refine x_szL ?_ ?_); · rfl) | ((with_reducible refine x_iteT2 ?_ ?_); · rfl) | ((with_reducible refine x_iteF2 ?_ ?_); · rfl) | dsimp only [List.set_cons_succ, List.set_cons_zero]))
local macro_rules | `(tactic| walk_at "g2") => `(tactic| with_reducible first | refine x_ixt0 ?_ | refine x_ixt1 ?_ | refine x_ixt2 ?_ | refine x_ixt3 ?_ | refine x_lenT ?_)
local macro_rules | `(tactic| walk_at "j") => `(tactic| repeat (first | walk_at "e1" | walk_at "s1" | walk_at "g1" | walk_at "g2" | ((with_reducible refine x_inTi ?_ ?_); · rfl) | ((with_reducible refine x_inTn ?_ ?_); · rfl) | ((with_reducible refine x_putL ?_ ?_); · rfl) | ((with_reducible refine x_szL ?_ ?_); · rfl) | ((with_reducible refine x_iteT2 ?_ ?_); · rfl) | ((with_reducible refine x_iteF2 ?_ ?_); · rfl) | dsimp only [List.set_cons_succ, List.set_cons_zero]))
theorem r_Machine_words_to_states {KF : PySem.W.Frag} {ds S K X} (h : sp_Machine_words_to_states KF ds S K X) (hb : belows S.length ds) (hS : belows S.length S) : u_Machine_words_to_states KF (endsOf S K X) (startD ["self"] ds) S := by
  obtain ⟨d, a, g, s, rfl, ma, k⟩ := h
  obtain ⟨h4, _, _⟩ := alpha_len ma.al
  show u_Machine_words_to_states KF (endsOf S K X) [some d] S
  unfold u_Machine_words_to_states
  walk_at "j"
  refine ⟨_, _, _, .lst (g.map encRow), List.mem_cons_self, ma.ins, rfl, ?_⟩
  walk_at "j"
  refine ⟨_, _, _, natD s, List.mem_cons_self, ma.ins, rfl, ?_⟩
  walk_at "j"
  refine ⟨_, _, _, .str a, List.mem_cons_self, ma.ins, rfl, ?_⟩
  walk_at "j"
  refine ⟨a, g, s, rfl, ma.rows, h4, ma.st, ma.most, ?_⟩
  exact exit_here (words_below _) k
theorem keys_kp (ps : List (Nat × Str)) : (ps.map kp).map (·.1) = (ps.map fun p => (p.1 : Int)).map Sum.inl := by
  rw [List.map_map, List.map_map]; rfl
theorem reach_len {KF : PySem.W.Frag} {S : Store} {d : Dat} {a : Str} {g : List (List Nat)} {s : Nat} (ma : isMa KF S d a g s) : BOk g.length (reachF a g s) := reach_ok rfl ma.rows (start_ok ma.st)
theorem r_Machine_reachable {KF : PySem.W.Frag} {ds S K X} (h : sp_Machine_reachable KF ds S K X) (hb : belows S.length ds) (hS : belows S.length S) : u_Machine_reachable KF (endsOf S K X) (startD ["self"] ds) S := by
  obtain ⟨d, a, g, s, rfl, ma, h64, k⟩ := h
  show u_Machine_reachable KF (endsOf S K X) [some d] S
  unfold u_Machine_reachable
  walk_at "j"
  refine ⟨_, _, _, _, ma.ins, by decide +kernel, List.mem_cons_self, ?_⟩
  walk_at "j"
  refine ⟨_, _, _, _, rfl, ma, ?_⟩
  walk_at "j"
  have := (reach_len ma).len
  refine ⟨(reachF a g s).map kp, (reachF a g s).map fun p => (p.1 : Int), rfl, keys_kp _, by rw [List.length_map]; omega, fun ys hp hs => ?_⟩
  refine ⟨S ++ [.lst (ys.map Dat.int)], .cell S.length, ⟨⟨[], by simp⟩, by simp, .inr ?_⟩, .same (by simp only [below, List.length_append, List.length_singleton]; omega), k ys hp hs⟩
  refine belows_app (hS.mono (by simp)) ?_
  simp only [belows, below, and_true]
  exact below_ints _
theorem r_Machine_first_word {KF : PySem.W.Frag} {ds S K X} (h : sp_Machine_first_word KF ds S K X) (hb : belows S.length ds) (hS : belows S.length S) : u_Machine_first_word KF (endsOf S K X) (startD ["self", "state"] ds) S := by
  obtain ⟨d, sv, a, g, s, rfl, ma, h⟩ := h
  simp only [belows] at hb
  show u_Machine_first_word KF (endsOf S K X) [some d, some sv] S
  unfold u_Machine_first_word
  walk_at "j"
  refine ⟨_, _, _, _, ma.ins, by decide +kernel, List.mem_cons_self, ?_⟩
  walk_at "j"
  rcases h with ⟨q, rfl, hq, k⟩ | ⟨hn, k⟩
  · refine ⟨d, natD q, a, g, s, rfl, ma, .inl ⟨q, rfl, hq, ?_⟩⟩
    walk_at "j"
    refine ⟨_, _, _, _, ma.ins, by decide +kernel, List.mem_cons_self, ?_⟩
    walk_at "j"
    refine ⟨_, _, _, _, rfl, ma, ?_⟩
    refine ⟨⟨(reachF a g s).map kp, rfl⟩, ?_⟩
    walk_at "j"
    refine ⟨(reachF a g s).map kp, .inl (q : Int), rfl, rfl, ?_⟩
    refine exit_here ?_ k
    unfold valD
    cases e : ((reachF a g s).map kp).find? fun p => decide (p.1 = (Sum.inl (q : Int) : Key)) with
    | none => show below _ .non; simp only [below]
    | some p =>
      obtain ⟨x, _, rfl⟩ := List.mem_map.mp (List.mem_of_find?_eq_some e)
      show below _ (.str _); simp only [below]
  · refine ⟨d, sv, a, g, s, rfl, ma, .inr ⟨hn, ?_⟩⟩
    exact exitX_here (dl := []) (by simp only [belows, below]; exact ⟨True.intro, hb.2.1, True.intro⟩) k
def foundN (ps : List (Nat × Str)) : List Dat := ps.map fun p => pairD (kp p)
theorem found_below {n : Nat} (ps : List (Nat × Str)) : belows n (foundN ps) := by
  unfold foundN
  induction ps with
  | nil => simp only [List.map_nil, belows]
  | cons p r ih => simp only [List.map_cons, belows, pairD, kp, keyD, below, true_and, and_true]; exact ih
theorem r_law_reach {KF : PySem.W.Frag} {ds S K X} (h : sp_law_reach KF ds S K X) (hb : belows S.length ds) (hS : belows S.length S) : u_law_reach KF (endsOf S K X) (startD ["_law_goals_here", "_law_signs_here", "_law_at", "_law_found", "_law_done", "_law_here", "_law_text", "_law_k", "_law_one", "_law_late"] ds) S := by
  obtain ⟨a, g, s, rfl, ok, ha, hs, hg, k⟩ := h
  have szl : sizeLine = 16777216 := rfl
  have hal := cps_len a
  show u_law_reach KF (endsOf S K X) [some (.lst (g.map encRow)), some (.str a), some (natD s), none, none, none, none, none, none, none] S
  unfold u_law_reach
  walk_at "j"
  refine ⟨fun m dl1 S1 => ∃ (i : Nat) (ps : List (Nat × Str)) (x5 x6 x7 x8 x9 : Option Dat), dl1 = [some (.lst (g.map encRow)), some (.str a), some (natD s), some (.cell S.length), some (natD i), x5, x6, x7, x8, x9] ∧ S1 = S ++ [.lst (foundN ps)] ∧ BOk g.length ps ∧ i ≤ ps.length ∧ m = g.length + 1 - i ∧ bfs a g m i ps = reachF a g s, ⟨g.length + 1, 0, [(s, "")], _, _, _, _, _, rfl, rfl, start_ok hs, Nat.zero_le _, rfl, rfl⟩, ?_⟩
  rintro m dl1 S1 ⟨i, ps, x5, x6, x7, x8, x9, rfl, rfl, bo, hi, rfl, hr⟩
  have hl := bo.len
  walk_at "j"
  refine x_lenL (xs := foundN ps) (by simp only [seqD, st1a]) ?_
  walk_at "j"
  rw [show (foundN ps).length = ps.length by simp [foundN]]
  refine x_ite (fun e => ?_) (fun e => ?_)
  · have e : i < ps.length := by have := of_decide_eq_true e; omega
    have hp : ∃ q w, ps[i]? = some (q, w) := ⟨_, _, List.getElem?_eq_getElem e⟩
    obtain ⟨q, w, hp⟩ := hp
    have hm := List.mem_of_getElem? hp
    have hq : q < g.length := bo.lt _ hm
    have hw : w.length < ps.length := bo.wl _ hm
    have e0 : g.getD q [] = g[q] := by simp [List.getD, List.getElem?_eq_getElem hq]
    have hrow := ok g[q] (List.getElem_mem hq)
    walk_at "j"
    refine x_ixn (xs := foundN ps) (by simp only [seqD, st1a]) (y := .tup [natD q, .str w]) (by simp only [foundN, List.getElem?_map, hp]; rfl) ?_
    walk_at "j"
    refine x_lenS (by omega) ?_
    refine ⟨⟨by omega, by omega⟩, ?_⟩
    rw [show ((a.length : Nat) : Int).toNat = a.length by omega, rangeD0]
    have hz := zip_lt ok hq
    have hfu : g.length + 1 - i = (g.length + 1 - (i + 1)) + 1 := by omega
    rw [hfu, bfs_step hp] at hr
    have hzl : ((g.getD q []).zip a.cps.toList).length = a.length := by rw [List.length_zip, e0, hrow.1, hal]; omega
    generalize hZ : (g.getD q []).zip a.cps.toList = Z at hz hzl hr
    refine for_T (List.range a.length) _ (fun pre dl1 S2 => ∃ x7 x8 x9, dl1 = [some (.lst (g.map encRow)), some (.str a), some (natD s), some (.cell S.length), some (natD (i + 1)), some (natD q), some (.str w), x7, x8, x9] ∧ S2 = S ++ [.lst (foundN (bfsRow w (Z.take pre.length) ps))]) ?_ ?_ ?_ ?_
    · exact ⟨_, _, _, rfl, rfl⟩
    · intros; trivial
    · rintro pre j rest dl1 S2 hx ⟨x7, x8, x9, rfl, rfl⟩
      have hj : j = pre.length ∧ j < a.length := by
        have h1 : (List.range a.length)[pre.length]? = some j := by rw [hx]; simp
        obtain ⟨h2, h3⟩ := List.getElem?_eq_some_iff.mp h1
        rw [List.getElem_range] at h3
        rw [List.length_range] at h2
        omega
      obtain ⟨rfl, hjl⟩ := hj
      have hZj : Z[pre.length]? = some (Z[pre.length]'(by omega)) := List.getElem?_eq_getElem (by omega)
      obtain ⟨qq, c⟩ : Nat × Nat := Z[pre.length]'(by omega)
      have hq2 : ∃ qq c, Z[pre.length]? = some (qq, c) := ⟨_, _, hZj⟩
      clear qq c
      obtain ⟨qq, c, hZ2⟩ := hq2
      have hgc : (g.getD q [])[pre.length]? = some qq ∧ a.cps.toList[pre.length]? = some c := by
        rw [← hZ] at hZ2
        rw [List.getElem?_zip_eq_some] at hZ2
        exact hZ2
      have hpre : ∀ x ∈ Z.take pre.length, x.1 < g.length := fun x hx2 => hz x (List.mem_of_mem_take hx2)
      obtain ⟨bo2, t, ht⟩ := bfsRow_ok (r := Z.take pre.length) bo hw hpre
      have hl2 := bo2.len
      have htake : Z.take (pre ++ [pre.length]).length = Z.take pre.length ++ [(qq, c)] := by
        rw [List.length_append, List.length_singleton, List.take_add_one, hZ2]; rfl
      have goal_ix : ∀ {K' : KE} {S' : Store}, K' (natD qq) S' → gIx (encRow (g.getD q [])) (natD pre.length) S' K' := fun k' => x_ixn (xs := natDs (g.getD q [])) rfl (y := natD qq) (by simp only [natDs, List.getElem?_map, hgc.1]; rfl) k'
      have hall : bfsRow w (Z.take (pre ++ [pre.length]).length) ps = (if qq ∈ (bfsRow w (Z.take pre.length) ps).map (·.1) then bfsRow w (Z.take pre.length) ps else bfsRow w (Z.take pre.length) ps ++ [(qq, w ++ sgn c)]) := by
        rw [htake, bfsRow_snoc]
      walk_at "j"
      refine x_ixn rfl (row_get hq) ?_
      walk_at "j"
      refine goal_ix ?_
      walk_at "j"
      refine ⟨foundN (bfsRow w (Z.take pre.length) ps), by simp only [drawD, seqD, st1a], ?_⟩
      refine lc_M (bfsRow w (Z.take pre.length) ps) (fun p => pairD (kp p)) (f := fun p => natD p.1) (by simp only [drawD, seqD, st1a]) (by omega) (fun p hp2 Kt Kf hk => ?_) ?_
      · dsimp only [wipeD, List.set_cons_succ, List.set_cons_zero]
        unfold pairD
        walk_at "j"
        exact hk
      walk_at "j"
      have hin := inF_nat qq ((bfsRow w (Z.take pre.length) ps).map (·.1))
      rw [List.map_map] at hin
      refine ⟨_, _, rfl, hin, ?_⟩
      walk_at "j"
      refine x_ite (fun e => ?_) (fun e => ?_)
      · have e : qq ∉ (bfsRow w (Z.take pre.length) ps).map (·.1) := by simpa using e
        walk_at "j"
        refine ⟨isT_list st1a, ?_⟩
        walk_at "j"
        refine x_ixn rfl (row_get hq) ?_
        walk_at "j"
        refine goal_ix ?_
        walk_at "j"
        refine x_ixS (by omega) (atI_nat' hgc.2) ?_
        walk_at "j"
        refine x_addS (by rw [sgn_len]; omega) ?_
        walk_at "j"
        refine x_append st1a (by simp only [foundN, List.length_map]; omega) ?_
        rw [st1sa]
        walk_at "j"
        refine .inl ⟨_, _, _, rfl, ?_⟩
        rw [hall, if_neg e]
        simp only [foundN, List.map_append]
        rfl
      · have e : qq ∈ (bfsRow w (Z.take pre.length) ps).map (·.1) := by simpa using e
        walk_at "j"
        refine .inl ⟨_, _, _, rfl, ?_⟩
        rw [hall, if_pos e]
    · rintro dl1 S2 ⟨x7, x8, x9, rfl, rfl⟩
      obtain ⟨bo2, t, ht⟩ := bfsRow_ok (r := Z) bo hw hz
      rw [List.length_range, ← hzl, List.take_length]
      refine .inl ⟨g.length + 1 - (i + 1), by omega, i + 1, _, _, _, _, _, _, rfl, rfl, bo2, by rw [ht, List.length_append]; omega, rfl, hr⟩
  · have e : ps.length ≤ i := by have := of_decide_eq_false e; omega
    rw [bfs_end e] at hr
    walk_at "j"
    rw [hr]
    exact ⟨S, .lst (foundN (reachF a g s)), ⟨⟨_, rfl⟩, Nat.le_refl _, .inl rfl⟩, .cell (Nat.le_refl _) st1a (.same (by simp only [below]; exact found_below _)), k⟩
end DL
/-! ST: sets of states, images, turns: promises. -/
namespace DL
open PySem L2
abbrev intDs (g : List Int) : List Dat := g.map Dat.int
def natOf : Dat → Nat
  | .int v => v.toNat
  | _ => 0
def geB : Dat → Bool
  | .int v => decide (0 ≤ v)
  | _ => false
/-- whether data is a set of states, R the reachable ones -/
def isSetB (R : List Nat) : Dat → Bool
  | .tup xs => decide (xs.length ≠ 0) && (xs.all geB && (ascL (xs.map natOf) && (xs.map natOf).all fun q => decide (q ∈ R)))
  | _ => false
def reachN (a : Str) (g : List (List Nat)) (s : Nat) : List Nat := (reachF a g s).map (·.1)
def upI (R : List Nat) : List Int := R.map fun (n : Nat) => (n : Int)
def sp_small_reach (K : PySem.W.Frag) : Spec := fun ds S Kt X => ∃ (d : Dat) (a : Str) (g : List (List Nat)) (s : Nat), ds = [d] ∧ isMa K S d a g s ∧ g.length < 64 ∧
  ((6 < (reachN a g s).length ∧ X (excTM K "states" 6) S) ∨ ((reachN a g s).length ≤ 6 ∧ ∀ ys : List Int, ys.Perm (upI (reachN a g s)) → ys.Pairwise (· ≤ ·) → Kt (.lst (intDs ys)) S))
def sp_is_set (K : PySem.W.Frag) : Spec := fun ds S Kt _ => ∃ (ys : List Int) (R : List Nat) (v : Dat), ds = [.lst (intDs ys), v] ∧ ys.Perm (upI R) ∧ okRowK S v ∧ Kt (.bl (isSetB R v)) S
abbrev goSet (K : PySem.W.Frag) (S : Store) (X : KX) (v : Dat) (R : List Nat) (P : Prop) : Prop :=
  (6 < R.length ∧ X (excTM K "states" 6) S) ∨ (R.length ≤ 6 ∧ isSetB R v = false ∧ X (excG K "InvalidSet" "given" v) S) ∨ (R.length ≤ 6 ∧ isSetB R v = true ∧ P)
def sp_need_set (K : PySem.W.Frag) : Spec := fun ds S Kt X => ∃ (d v : Dat) (a : Str) (g : List (List Nat)) (s : Nat), ds = [d, v] ∧ isMa K S d a g s ∧ g.length < 64 ∧ okRowK S v ∧ goSet K S X v (reachN a g s) (Kt .non S)
def ledI (a : Str) (g : List (List Nat)) (qs : List Nat) (w : Str) : List Int := qs.map fun q => ((ledF a g q w.cps.toList : Nat) : Int)
def sp_led_set (K : PySem.W.Frag) : Spec := fun ds S Kt _ => ∃ (d : Dat) (qs : List Nat) (w a : Str) (g : List (List Nat)) (s : Nat), ds = [d, .tup (intDs (upI qs)), .str w] ∧ isMa K S d a g s ∧ (∀ q ∈ qs, q < g.length) ∧ qs.length < 60 ∧ isWord a w = true ∧ w.length ≤ 1000000 ∧ Kt (.tup (intDs (ledI a g qs w))) S
abbrev goWord (K : PySem.W.Frag) (S : Store) (X : KX) (a : Str) (wd : Dat) (P : Str → Prop) : Prop :=
  (badWord S a wd ∧ X (excIW K wd) S) ∨ ∃ w : Str, wd = .str w ∧ w.length ≤ 1000000 ∧ isWord a w = true ∧ P w
def sp_image (K : PySem.W.Frag) : Spec := fun ds S Kt X => ∃ (d v wd : Dat) (a : Str) (g : List (List Nat)) (s : Nat), ds = [d, v, wd] ∧ isMa K S d a g s ∧ g.length < 64 ∧ okRowK S v ∧
  goSet K S X v (reachN a g s) (∃ qs : List Nat, v = .tup (intDs (upI qs)) ∧ qs.length < 60 ∧ (∀ q ∈ qs, q < g.length) ∧ goWord K S X a wd fun w => ∀ ys : List Int, ys.Pairwise (· < ·) → (∀ k, k ∈ ys ↔ k ∈ ledI a g qs w) → Kt (.tup (intDs ys)) S)
def sp_turn (K : PySem.W.Frag) : Spec := fun ds S Kt X => ∃ (d v wd : Dat) (a : Str) (g : List (List Nat)) (s : Nat), ds = [d, v, wd] ∧ isMa K S d a g s ∧ g.length < 64 ∧ okRowK S v ∧
  goSet K S X v (reachN a g s) (∃ qs : List Nat, v = .tup (intDs (upI qs)) ∧ qs.length < 60 ∧ (∀ q ∈ qs, q < g.length) ∧ goWord K S X a wd fun w => ∀ ys : List Int, ys.Perm (ledI a g qs w) → ys.Pairwise (· ≤ ·) → Kt (if ys = upI qs then .tup (intDs (ledI a g qs w)) else .non) S)
theorem len_small_reach {K : PySem.W.Frag} {ds S Kt X} (h : sp_small_reach K ds S Kt X) : ds.length = 1 := by obtain ⟨_, _, _, _, rfl, _⟩ := h; rfl
theorem len_is_set {K : PySem.W.Frag} {ds S Kt X} (h : sp_is_set K ds S Kt X) : ds.length = 2 := by obtain ⟨_, _, _, rfl, _⟩ := h; rfl
theorem len_need_set {K : PySem.W.Frag} {ds S Kt X} (h : sp_need_set K ds S Kt X) : ds.length = 2 := by obtain ⟨_, _, _, _, _, rfl, _⟩ := h; rfl
theorem len_led_set {K : PySem.W.Frag} {ds S Kt X} (h : sp_led_set K ds S Kt X) : ds.length = 3 := by obtain ⟨_, _, _, _, _, _, rfl, _⟩ := h; rfl
theorem len_image {K : PySem.W.Frag} {ds S Kt X} (h : sp_image K ds S Kt X) : ds.length = 3 := by obtain ⟨_, _, _, _, _, _, rfl, _⟩ := h; rfl
theorem len_turn {K : PySem.W.Frag} {ds S Kt X} (h : sp_turn K ds S Kt X) : ds.length = 3 := by obtain ⟨_, _, _, _, _, _, rfl, _⟩ := h; rfl
def u_small_reach (K : PySem.W.Frag) : US :=
  (uSeq (uSet 1 (uMeth [(He.ga K "Machine", sp_Machine_reachable K)] "reachable" [] (uVar 0) uNil))
    (uSeq (uIfS (uTest (uOp gGt (uCB gLen (uCons (uVar 1) uNil)) (uC (.int 6)))) (uRaise (He.ga K "TooMany") [("code", .c "TooMany"), ("most", .a 1), ("subject", .a 0)] 2 true (uCons (uC (.str "states")) (uCons (uC (.int 6)) uNil))) uNext)
    (uRet (uVar 1))))
def u_is_set (K : PySem.W.Frag) : US :=
  (uSeq (uIfS (uOr (uNot (uTru (uCB (gIsi K) (uCons (uVar 1) (uCons (uC (.raw (.ty "tuple"))) uNil))))) (uOr (uTest (uOp gEq (uCB gLen (uCons (uVar 1) uNil)) (uC (.int 0)))) (uNot (uTru (uCB (gBools fun bs => bs.all id) (uCons (uLc (uSeqI (uVar 1)) [2] (uName 2) uYes (uCall (sp_is_number K) [.non] (uCons (uVar 2) (uCons (uC (.int 0)) uNil)))) uNil)))))) (uRet (uC (.bl false))) uNext)
    (uRet (uAndV (uCall (sp_ascends K) [] (uCons (uVar 1) uNil)) (uCB (gBools fun bs => bs.all id) (uCons (uLc (uSeqI (uVar 1)) [2] (uName 2) uYes (uOp (gIn id) (uVar 2) (uVar 0))) uNil)))))
def u_need_set (K : PySem.W.Frag) : US :=
  (uIfS (uNot (uTru (uCall (sp_is_set K) [] (uCons (uCall (sp_small_reach K) [] (uCons (uVar 0) uNil)) (uCons (uVar 1) uNil))))) (uRaise (He.ga K "InvalidSet") [("code", .c "InvalidSet"), ("given", .a 0)] 1 false (uCons (uVar 1) uNil)) uNext)
def u_led_set (K : PySem.W.Frag) : US :=
  (uRet (uCB gTupleC (uCons (uLc (uSeqI (uVar 1)) [3] (uName 3) uYes (uMeth [(He.ga K "Machine", sp_Machine_led K)] "led" [] (uVar 0) (uCons (uVar 3) (uCons (uVar 2) uNil)))) uNil)))
def u_image (K : PySem.W.Frag) : US :=
  (uSeq (uDrop (uCall (sp_need_set K) [] (uCons (uVar 0) (uCons (uVar 1) uNil))))
    (uSeq (uDrop (uCall (sp_need_word K) [] (uCons (uProp [(He.ga K "Machine", sp_Machine_alphabet K)] (uVar 0)) (uCons (uVar 2) uNil))))
    (uRet (uCB gTupleC (uCons (uSortSet (uCall (sp_led_set K) [] (uCons (uVar 0) (uCons (uVar 1) (uCons (uVar 2) uNil))))) uNil)))))
def u_turn (K : PySem.W.Frag) : US :=
  (uSeq (uDrop (uCall (sp_need_set K) [] (uCons (uVar 0) (uCons (uVar 1) uNil))))
    (uSeq (uDrop (uCall (sp_need_word K) [] (uCons (uProp [(He.ga K "Machine", sp_Machine_alphabet K)] (uVar 0)) (uCons (uVar 2) uNil))))
    (uSeq (uSet 3 (uCall (sp_led_set K) [] (uCons (uVar 0) (uCons (uVar 1) (uCons (uVar 2) uNil)))))
    (uRet (uIf (uTest (uOp gEq (uCB gTupleC (uCons (uCB gSortU (uCons (uVar 3) uNil)) uNil)) (uVar 1))) (uVar 3) (uC .non))))))
end DL
namespace DL
open PySem L2
local macro_rules | `(tactic| walk_at "e1") => `(tactic| with_reducible first
  | refine x_var rfl ?_ | refine x_c ?_ | refine x_op ?_ | refine x_un ?_ | refine x_nil ?_ | refine x_cons ?_ | refine x_tup ?_ | refine x_lst ?_ | refine x_lstC ?_ | refine x_cb ?_ | refine x_call ?_ | refine x_if ?_
  | refine x_test ?_ | refine x_and ?_ | refine x_or ?_ | refine x_not ?_ | refine x_tru ?_ | refine x_andV ?_ | refine x_orV ?_ | refine x_notV ?_ | refine x_yes ?_ | refine x_chain ?_
  | refine x_bm ?_ | refine x_bm0 ?_ | refine x_part ?_ | refine x_no ?_ | refine x_sl ?_ | refine x_seqI ?_ | refine x_r1 ?_ | refine x_r2 ?_ | refine x_z ?_ | refine x_lc ?_ | refine x_lcC ?_ | refine x_lcW ?_ | refine x_fld ?_ | refine x_meth ?_ | refine x_prop ?_ | refine x_make ?_ | refine x_en ?_ | refine x_makeK ?_ | refine x_joined ?_ | refine x_jn ?_ | refine x_jc ?_ | refine x_enK ?_ | refine x_dget ?_ | refine x_sortset ?_ | refine x_give ?_ | refine x_lam ?_)
local macro_rules | `(tactic| walk_at "s1") => `(tactic| with_reducible first
  | refine x_seq ?_ | refine x_next ?_ | refine x_break ?_ | refine x_cont ?_ | refine x_drop ?_ | refine x_ret ?_ | refine x_retN ?_ | refine x_ifS ?_ | refine x_set ?_ | refine x_asg ?_ | refine x_par ?_ | refine x_gsub ?_ | refine x_gnil ?_ | refine x_gcons ?_ | refine x_setF ?_ | refine x_for ?_ | refine x_raise ?_ | refine x_rz1 ?_ | refine x_rz0 ?_)
local macro_rules | `(tactic| walk_at "g1") => `(tactic| first
  | with_reducible refine x_iteT ?_ | with_reducible refine x_iteF ?_ | with_reducible refine x_tN ?_ | with_reducible refine x_tB ?_ | with_reducible refine x_tI ?_ | with_reducible refine x_tT ?_ | with_reducible refine x_tL ?_
  | with_reducible refine x_addI ?_ | with_reducible refine x_sub ?_ | with_reducible refine x_ltI ?_ | with_reducible refine x_leI ?_ | with_reducible refine x_gtI ?_ | with_reducible refine x_geI ?_ | with_reducible refine x_ltS ?_ | with_reducible refine x_leS ?_ | with_reducible refine x_gtS ?_ | with_reducible refine x_geS ?_
  | with_reducible refine x_eqI ?_ | with_reducible refine x_eqS ?_ | with_reducible refine x_eqB ?_ | with_reducible refine x_neI ?_ | with_reducible refine x_neS ?_ | with_reducible refine x_neB ?_ | with_reducible refine x_neg ?_
  | with_reducible refine x_inS ?_ | with_reducible refine x_notinS ?_ | with_reducible refine x_intI ?_ | with_reducible refine x_intB ?_ | with_reducible refine x_abs ?_ | with_reducible refine x_slL ?_ | with_reducible refine x_slT ?_ | with_reducible refine x_min2 ?_ | with_reducible refine x_max2 ?_
  | ((with_reducible refine x_is ?_ ?_); · rfl) | ((with_reducible refine x_isnot ?_ ?_); · rfl) | ((with_reducible refine x_isiD ?_ ?_ ?_); (next => rfl); (next => decide)) | ((with_reducible refine x_isiD2 ?_ ?_ ?_ ?_); (next => rfl); (next => decide); (next => decide)) | ((with_reducible refine x_name ?_ ?_); · exact of_decide_eq_true rfl) | ((with_reducible refine x_gtup ?_ ?_); · rfl))
local macro_rules | `(tactic| walk_at "d") => `(tactic| repeat (first | walk_at "e1" | walk_at "s1" | walk_at "g1" | ((with_reducible refine x_putL ?_ ?_); · rfl) | ((with_reducible refine x_szL ?_ ?_); · rfl) | dsimp only [List.set_cons_succ, List.set_cons_zero]))
local macro_rules | `(tactic| walk_at "i") => `(tactic| repeat (first | walk_at "e1" | walk_at "s1" | walk_at "g1" | ((with_reducible refine x_putL ?_ ?_); · rfl) | ((with_reducible refine x_szL ?_ ?_); · rfl) | ((with_reducible refine x_iteT2 ?_ ?_); · rfl) | ((with_reducible refine x_iteF2 ?_ ?_); · rfl) | dsimp only [List.set_cons_succ, List.set_cons_zero]))
local macro_rules | `(tactic| walk_at "g2") => `(tactic| with_reducible first | refine x_ixt0 ?_ | refine x_ixt1 ?_ | refine x_ixt2 ?_ | refine x_ixt3 ?_ | refine x_lenT ?_)
local macro_rules | `(tactic| walk_at "j") => `(tactic| repeat (first | walk_at "e1" | walk_at "s1" | walk_at "g1" | walk_at "g2" | ((with_reducible refine x_inTi ?_ ?_); · rfl) | ((with_reducible refine x_inTn ?_ ?_); · rfl) | ((with_reducible refine x_putL ?_ ?_); · rfl) | ((with_reducible refine x_szL ?_ ?_); · rfl) | ((with_reducible refine x_iteT2 ?_ ?_); · rfl) | ((with_reducible refine x_iteF2 ?_ ?_); · rfl) | dsimp only [List.set_cons_succ, List.set_cons_zero]))
/-! tuples of ints, compared -/
theorem pys_ints {S : Store} : ∀ xs : List Int, Pys S (intDs xs) (xs.map PyData.int)
  | [] => .nil
  | _ :: r => .cons .int (pys_ints r)
theorem eqv_ints : ∀ xs ys : List Int, PyData.eqvAll (xs.map PyData.int) (ys.map PyData.int) = decide (xs = ys)
  | [], [] => by simp [PyData.eqvAll]
  | [], y :: ys => by simp [PyData.eqvAll]
  | x :: xs, [] => by simp [PyData.eqvAll]
  | x :: xs, y :: ys => by
    rw [List.map_cons, List.map_cons, PyData.eqvAll, eqv_ints xs ys, PyData.eqv]
    by_cases e : x = y
    · by_cases e2 : xs = ys
      · simp [e, e2]
      · simp [e, e2]
    · simp [e]
theorem shape_ints (xs : List Int) : SeqAt.shaped (.tuple (xs.map PyData.int)) = true := by
  have h1 : ∀ xs : List Int, PyData.canLayAll0 (xs.map PyData.int) = true := by
    intro xs
    induction xs with
    | nil => simp [PyData.canLayAll0]
    | cons x r ih => simp [PyData.canLayAll0, PyData.canLay0] at ih ⊢; exact ih
  have h2 : ∀ xs : List Int, PyData.depthAll (xs.map PyData.int) = 0 := by
    intro xs
    induction xs with
    | nil => simp [PyData.depthAll]
    | cons x r ih => simp [PyData.depthAll, PyData.depth] at ih ⊢; exact ih
  unfold SeqAt.shaped
  rw [PyData.canLay0, h1, PyData.depth, h2]
  rfl
theorem x_eqTI {S : Store} {K : KE} {xs ys : List Int} (k : K (.bl (decide (xs = ys))) S) : gEq (.tup (intDs xs)) (.tup (intDs ys)) S K := by
  refine x_eqP rfl (.tup (pys_ints xs)) (.tup (pys_ints ys)) (shape_ints xs) (shape_ints ys) ?_
  rw [show PyData.eqv (.tuple (xs.map PyData.int)) (.tuple (ys.map PyData.int)) = decide (xs = ys) by rw [PyData.eqv, eqv_ints]]
  exact k
theorem x_neTI {S : Store} {K : KE} {xs ys : List Int} (k : K (.bl (!decide (xs = ys))) S) : gNe (.tup (intDs xs)) (.tup (intDs ys)) S K := by
  refine x_neP rfl (.tup (pys_ints xs)) (.tup (pys_ints ys)) (shape_ints xs) (shape_ints ys) ?_
  rw [show PyData.eqv (.tuple (xs.map PyData.int)) (.tuple (ys.map PyData.int)) = decide (xs = ys) by rw [PyData.eqv, eqv_ints]]
  exact k
theorem ints_below {n : Nat} (g : List Int) : belows n (intDs g) := below_ints _
theorem r_small_reach {KF : PySem.W.Frag} {ds S K X} (h : sp_small_reach KF ds S K X) (hb : belows S.length ds) (hS : belows S.length S) : u_small_reach KF (endsOf S K X) (startD ["machine", "found"] ds) S := by
  obtain ⟨d, a, g, s, rfl, ma, h64, h⟩ := h
  show u_small_reach KF (endsOf S K X) [some d, none] S
  unfold u_small_reach
  walk_at "j"
  refine ⟨_, _, _, _, ma.ins, by decide +kernel, List.mem_cons_self, ?_⟩
  walk_at "j"
  refine ⟨_, _, _, _, rfl, ma, h64, fun ys hp hs => ?_⟩
  have hp : ys.Perm (upI (reachN a g s)) := by unfold upI reachN; rw [List.map_map]; exact hp
  have hl : ys.length = (reachN a g s).length := by rw [hp.length_eq]; simp [upI]
  walk_at "j"
  refine x_lenL (xs := intDs ys) (by simp only [seqD, st1a]) ?_
  walk_at "j"
  rw [show (intDs ys).length = (reachN a g s).length by rw [List.length_map, hl]]
  rcases h with ⟨h6, k⟩ | ⟨h6, k⟩
  · refine x_iteT2 (decide_eq_true (by omega)) ?_
    walk_at "j"
    exact x_rz2 (by decide) (exitX_pure (dl := []) (by simp only [belows, below, and_true]) k)
  · refine x_iteF2 (decide_eq_false (by omega)) ?_
    walk_at "j"
    exact ⟨S, .lst (intDs ys), ⟨⟨_, rfl⟩, Nat.le_refl _, .inl rfl⟩, .cell (Nat.le_refl _) st1a (.same (by simp only [below]; exact ints_below _)), k ys hp hs⟩
theorem r_led_set {KF : PySem.W.Frag} {ds S K X} (h : sp_led_set KF ds S K X) (hb : belows S.length ds) (hS : belows S.length S) : u_led_set KF (endsOf S K X) (startD ["machine", "states", "word", "state"] ds) S := by
  obtain ⟨d, qs, w, a, g, s, rfl, ma, hq, h60, hw, hwl, k⟩ := h
  have szl : sizeLine = 16777216 := rfl
  show u_led_set KF (endsOf S K X) [some d, some (.tup (intDs (upI qs))), some (.str w), none] S
  unfold u_led_set
  walk_at "j"
  refine ⟨_, rfl, ?_⟩
  rw [show intDs (upI qs) = qs.map (fun (n : Nat) => natD n) by unfold intDs upI; rw [List.map_map]; rfl]
  refine lc_M qs (fun (n : Nat) => natD n) (f := fun q => natD (ledF a g q w.cps.toList)) rfl (by omega) (fun q hq2 Kt Kf hk => ?_) ?_
  · dsimp only [wipeD, List.set_cons_succ, List.set_cons_zero]
    walk_at "j"
    refine ⟨_, _, _, _, ma.ins, by decide +kernel, List.mem_cons_self, ?_⟩
    walk_at "j"
    exact ⟨_, _, _, a, g, s, rfl, ma, .inr ⟨q, rfl, hq q hq2, .inr ⟨w, rfl, hwl, hw, hk⟩⟩⟩
  walk_at "j"
  refine x_tuple (xs := intDs (ledI a g qs w)) (by unfold intDs ledI; rw [List.map_map]; rfl) ?_
  exact exit_here (by simp only [below]; exact ints_below _) k
theorem geB_num {S : Store} {KF : PySem.W.Frag} {d : Dat} {Kt : KE} {X : KX} (h : okKind S d) (k : Kt (.bl (geB d)) S) : sp_is_number KF [d, .int 0, .non] S Kt X := by
  obtain ⟨t, ht, hm⟩ := h
  by_cases e : t = "int"
  · subst e
    obtain ⟨v, rfl⟩ := ty_int ht
    exact .inr (.inl ⟨v, 0, rfl, k⟩)
  · refine .inr (.inr ⟨d, 0, _, rfl, ⟨t, ht, e, hm⟩, ?_⟩)
    have : geB d = false := by
      cases d with
      | int v => simp [tyS] at ht; exact (e ht.symm).elim
      | _ => rfl
    rw [this] at k
    exact k
theorem ge_nats : ∀ {xs : List Dat}, xs.all geB = true → xs = (xs.map natOf).map fun (n : Nat) => Dat.int (n : Int)
  | [], _ => rfl
  | x :: xs, h => by
    rw [List.all_cons, Bool.and_eq_true] at h
    rw [List.map_cons, List.map_cons, ← ge_nats h.2]
    congr 1
    cases x with
    | int v =>
      have := of_decide_eq_true (show decide (0 ≤ v) = true from h.1)
      show Dat.int v = Dat.int ((v.toNat : Nat) : Int)
      rw [Int.toNat_of_nonneg this]
    | _ => cases h.1
theorem inF_ints (c : Int) (cs : List Int) : inF (.int c) (intDs cs) = some (decide (c ∈ cs)) := by
  have h : (intDs cs).mapM flat? = some (cs.map V.int) := mapM_ints cs
  unfold inF
  rw [h]
  show some (inV _ _) = _
  congr 1
  unfold inV
  rw [List.any_map]
  have key : ∀ a : Int, eqV (.int a) (.int c) = decide (a = c) := fun a => rfl
  clear h
  induction cs with
  | nil => rfl
  | cons a r ih =>
    rw [List.any_cons, ih]
    rw [show ((fun x => eqV x (V.int c)) ∘ V.int) a = decide (a = c) from key a]
    by_cases e : a = c
    · simp [e]
    · by_cases e2 : c ∈ r
      · simp [e2]
      · rw [decide_eq_false e, decide_eq_false e2]; symm
        refine decide_eq_false fun z => ?_
        rcases List.mem_cons.mp z with z | z
        · exact e z.symm
        · exact e2 z
end DL
namespace DL
open PySem L2
local macro_rules | `(tactic| walk_at "e1") => `(tactic| with_reducible first
  | refine x_var rfl ?_ | refine x_c ?_ | refine x_op ?_ | refine x_un ?_ | refine x_nil ?_ | refine x_cons ?_ | refine x_tup ?_ | refine x_lst ?_ | refine x_lstC ?_ | refine x_cb ?_ | refine x_call ?_ | refine x_if ?_
  | refine x_test ?_ | refine x_and ?_ | refine x_or ?_ | refine x_not ?_ | refine x_tru ?_ | refine x_andV ?_ | refine x_orV ?_ | refine x_notV ?_ | refine x_yes ?_ | refine x_chain ?_
  | refine x_bm ?_ | refine x_bm0 ?_ | refine x_part ?_ | refine x_no ?_ | refine x_sl ?_ | refine x_seqI ?_ | refine x_r1 ?_ | refine x_r2 ?_ | refine x_z ?_ | refine x_lc ?_ | refine x_lcC ?_ | refine x_lcW ?_ | refine x_fld ?_ | refine x_meth ?_ | refine x_prop ?_ | refine x_make ?_ | refine x_en ?_ | refine x_makeK ?_ | refine x_joined ?_ | refine x_jn ?_ | refine x_jc ?_ | refine x_enK ?_ | refine x_dget ?_ | refine x_sortset ?_ | refine x_give ?_ | refine x_lam ?_)
local macro_rules | `(tactic| walk_at "s1") => `(tactic| with_reducible first
  | refine x_seq ?_ | refine x_next ?_ | refine x_break ?_ | refine x_cont ?_ | refine x_drop ?_ | refine x_ret ?_ | refine x_retN ?_ | refine x_ifS ?_ | refine x_set ?_ | refine x_asg ?_ | refine x_par ?_ | refine x_gsub ?_ | refine x_gnil ?_ | refine x_gcons ?_ | refine x_setF ?_ | refine x_for ?_ | refine x_raise ?_ | refine x_rz1 ?_ | refine x_rz0 ?_)
local macro_rules | `(tactic| walk_at "g1") => `(tactic| first
  | with_reducible refine x_iteT ?_ | with_reducible refine x_iteF ?_ | with_reducible refine x_tN ?_ | with_reducible refine x_tB ?_ | with_reducible refine x_tI ?_ | with_reducible refine x_tT ?_ | with_reducible refine x_tL ?_
  | with_reducible refine x_addI ?_ | with_reducible refine x_sub ?_ | with_reducible refine x_ltI ?_ | with_reducible refine x_leI ?_ | with_reducible refine x_gtI ?_ | with_reducible refine x_geI ?_ | with_reducible refine x_ltS ?_ | with_reducible refine x_leS ?_ | with_reducible refine x_gtS ?_ | with_reducible refine x_geS ?_
  | with_reducible refine x_eqI ?_ | with_reducible refine x_eqS ?_ | with_reducible refine x_eqB ?_ | with_reducible refine x_neI ?_ | with_reducible refine x_neS ?_ | with_reducible refine x_neB ?_ | with_reducible refine x_neg ?_
  | with_reducible refine x_inS ?_ | with_reducible refine x_notinS ?_ | with_reducible refine x_intI ?_ | with_reducible refine x_intB ?_ | with_reducible refine x_abs ?_ | with_reducible refine x_slL ?_ | with_reducible refine x_slT ?_ | with_reducible refine x_min2 ?_ | with_reducible refine x_max2 ?_
  | ((with_reducible refine x_is ?_ ?_); · rfl) | ((with_reducible refine x_isnot ?_ ?_); · rfl) | ((with_reducible refine x_isiD ?_ ?_ ?_); (next => rfl); (next => decide)) | ((with_reducible refine x_isiD2 ?_ ?_ ?_ ?_); (next => rfl); (next => decide); (next => decide)) | ((with_reducible refine x_name ?_ ?_); · exact of_decide_eq_true rfl) | ((with_reducible refine x_gtup ?_ ?_); · rfl))
local macro_rules | `(tactic| walk_at "d") => `(tactic| repeat (first | walk_at "e1" | walk_at "s1" | walk_at "g1" | ((with_reducible refine x_putL ?_ ?_); · rfl) | ((with_reducible refine x_szL ?_ ?_); · rfl) | dsimp only [List.set_cons_succ, List.set_cons_zero]))
local macro_rules | `(tactic| walk_at "i") => `(tactic| repeat (first | walk_at "e1" | walk_at "s1" | walk_at "g1" | ((with_reducible refine x_putL ?_ ?_); · rfl) | ((with_reducible refine x_szL ?_ ?_); · rfl) | ((with_reducible refine x_iteT2 ?_ ?_); · rfl) | ((with_reducible refine x_iteF2 ?_ ?_); · rfl) | dsimp only [List.set_cons_succ, List.set_cons_zero]))
local macro_rules | `(tactic| walk_at "g2") => `(tactic| with_reducible first | refine x_ixt0 ?_ | refine x_ixt1 ?_ | refine x_ixt2 ?_ | refine x_ixt3 ?_ | refine x_lenT ?_)
local macro_rules | `(tactic| walk_at "j") => `(tactic| repeat (first | walk_at "e1" | walk_at "s1" | walk_at "g1" | walk_at "g2" | ((with_reducible refine x_inTi ?_ ?_); · rfl) | ((with_reducible refine x_inTn ?_ ?_); · rfl) | ((with_reducible refine x_putL ?_ ?_); · rfl) | ((with_reducible refine x_szL ?_ ?_); · rfl) | ((with_reducible refine x_iteT2 ?_ ?_); · rfl) | ((with_reducible refine x_iteF2 ?_ ?_); · rfl) | dsimp only [List.set_cons_succ, List.set_cons_zero]))
theorem up_mem {ys : List Int} {R : List Nat} (hp : ys.Perm (upI R)) (q : Nat) : decide ((q : Int) ∈ ys) = decide (q ∈ R) := by
  have : (q : Int) ∈ ys ↔ q ∈ R := by
    rw [hp.mem_iff]
    unfold upI
    constructor
    · intro h
      obtain ⟨x, hx, e⟩ := List.mem_map.mp h
      have : x = q := by omega
      exact this ▸ hx
    · intro h; exact List.mem_map.mpr ⟨q, h, rfl⟩
  by_cases e : q ∈ R
  · rw [decide_eq_true e, decide_eq_true (this.mpr e)]
  · rw [decide_eq_false e, decide_eq_false fun z => e (this.mp z)]
theorem r_is_set {KF : PySem.W.Frag} {ds S K X} (h : sp_is_set KF ds S K X) (hb : belows S.length ds) (hS : belows S.length S) : u_is_set KF (endsOf S K X) (startD ["reached", "value", "state"] ds) S := by
  obtain ⟨ys, R, v, rfl, hp, ⟨⟨t, ht, hm⟩, hx⟩, k⟩ := h
  have szl : sizeLine = 16777216 := rfl
  show u_is_set KF (endsOf S K X) [some (.lst (intDs ys)), some v, none] S
  have fin : ∀ b, b = isSetB R v → (endsOf S K X).rt (.bl b) S := fun b e => by subst e; exact exit_here (by simp only [below]) k
  unfold u_is_set
  walk_at "j"
  refine x_isi ht (by decide) ?_
  rw [isB_tup]
  by_cases e : t = "tuple"
  · subst e
    obtain ⟨xs, rfl⟩ := ty_tup ht
    obtain ⟨hl, hk⟩ := hx xs rfl
    walk_at "j"
    refine x_ite (fun e => ?_) (fun e => ?_)
    · have e : (xs.length : Int) = 0 := of_decide_eq_true e
      walk_at "j"
      refine fin _ ?_
      show false = (decide (xs.length ≠ 0) && _)
      rw [decide_eq_false (by omega)]; rfl
    · have e : ¬ (xs.length : Int) = 0 := of_decide_eq_false e
      have hd : decide (xs.length ≠ 0) = true := decide_eq_true (by omega)
      walk_at "j"
      refine ⟨_, rfl, ?_⟩
      refine' lc_I xs rfl (by omega) (f := fun x => .bl (geB x)) ?hs ?k
      case hs =>
        intro x hx2 Kt Kf hk2
        dsimp only [wipeD, List.set_cons_succ, List.set_cons_zero]
        walk_at "j"
        exact geB_num (hk x hx2) hk2
      case k =>
        walk_at "j"
        refine x_allB ?_
        walk_at "j"
        refine x_ite (fun e2 => ?_) (fun e2 => ?_)
        · walk_at "j"
          refine fin _ ?_
          show false = (decide (xs.length ≠ 0) && (xs.all geB && _))
          have e3 : xs.all geB = false := by simpa using e2
          rw [e3, Bool.false_and, Bool.and_false]
        · have e3 : xs.all geB = true := by simpa using e2
          have hxs := ge_nats e3
          generalize hns : xs.map natOf = ns at hxs
          walk_at "j"
          have hnl : ns.length = xs.length := by rw [← hns, List.length_map]
          refine .inr ⟨ns, by rw [← hxs]; rfl, by omega, ?_⟩
          have hset : isSetB R (.tup xs) = (ascL ns && ns.all fun q => decide (q ∈ R)) := by
            show (decide (xs.length ≠ 0) && (xs.all geB && (ascL (xs.map natOf) && (xs.map natOf).all fun q => decide (q ∈ R)))) = _
            rw [hd, e3, hns]; rfl
          rw [hset] at fin
          walk_at "j"
          refine x_ite (fun e4 => ?_) (fun e4 => ?_)
          · walk_at "j"
            refine ⟨_, rfl, ?_⟩
            rw [hxs]
            refine lc_M ns (fun (n : Nat) => Dat.int (n : Int)) (f := fun q => .bl (decide (q ∈ R))) rfl (by omega) (fun q hq Kt Kf hk2 => ?_) ?_
            · dsimp only [wipeD, List.set_cons_succ, List.set_cons_zero]
              walk_at "j"
              refine ⟨_, _, rfl, inF_ints _ _, ?_⟩
              rw [up_mem hp]
              exact hk2
            · walk_at "j"
              refine x_allB ?_
              refine fin _ ?_
              rw [e4, Bool.true_and]
          · walk_at "j"
            rw [e4]
            refine fin _ ?_
            rw [e4, Bool.false_and]
  · rw [decide_eq_false e]
    walk_at "j"
    refine fin _ ?_
    cases v with
    | tup xs => simp [tyS] at ht; exact (e ht.symm).elim
    | _ => rfl
theorem r_need_set {KF : PySem.W.Frag} {ds S K X} (h : sp_need_set KF ds S K X) (hb : belows S.length ds) (hS : belows S.length S) : u_need_set KF (endsOf S K X) (startD ["machine", "states"] ds) S := by
  obtain ⟨d, v, a, g, s, rfl, ma, h64, hv, h⟩ := h
  simp only [belows] at hb
  show u_need_set KF (endsOf S K X) [some d, some v] S
  unfold u_need_set
  walk_at "j"
  rcases h with ⟨h6, k⟩ | ⟨h6, hset, k⟩ | ⟨h6, hset, k⟩
  · exact ⟨_, a, g, s, rfl, ma, h64, .inl ⟨h6, exitX_here (dl := []) (by simp only [belows, below, and_true]) k⟩⟩
  · refine ⟨_, a, g, s, rfl, ma, h64, .inr ⟨h6, fun ys hp hs => ?_⟩⟩
    walk_at "j"
    refine ⟨ys, _, _, rfl, hp, hv, ?_⟩
    rw [hset]
    walk_at "j"
    exact exitX_here (dl := []) (by simp only [belows, below]; exact ⟨True.intro, hb.2.1, True.intro⟩) k
  · refine ⟨_, a, g, s, rfl, ma, h64, .inr ⟨h6, fun ys hp hs => ?_⟩⟩
    walk_at "j"
    refine ⟨ys, _, _, rfl, hp, hv, ?_⟩
    rw [hset]
    walk_at "j"
    exact exit_here (by simp only [below]) k
theorem r_image {KF : PySem.W.Frag} {ds S K X} (h : sp_image KF ds S K X) (hb : belows S.length ds) (hS : belows S.length S) : u_image KF (endsOf S K X) (startD ["machine", "states", "word"] ds) S := by
  obtain ⟨d, v, wd, a, g, s, rfl, ma, h64, hv, h⟩ := h
  simp only [belows] at hb
  show u_image KF (endsOf S K X) [some d, some v, some wd] S
  unfold u_image
  walk_at "j"
  rcases h with ⟨h6, k⟩ | ⟨h6, hset, k⟩ | ⟨h6, hset, qs, rfl, hq60, hq, h⟩
  · exact ⟨_, _, a, g, s, rfl, ma, h64, hv, .inl ⟨h6, exitX_here (dl := []) (by simp only [belows, below, and_true]) k⟩⟩
  · exact ⟨_, _, a, g, s, rfl, ma, h64, hv, .inr (.inl ⟨h6, hset, exitX_here (dl := []) (by simp only [belows, below]; exact ⟨True.intro, hb.2.1, True.intro⟩) k⟩)⟩
  · refine ⟨_, _, a, g, s, rfl, ma, h64, hv, .inr (.inr ⟨h6, hset, ?_⟩)⟩
    walk_at "j"
    refine ⟨_, _, _, _, ma.ins, List.mem_cons_self, ?_⟩
    refine ⟨_, _, _, _, rfl, ma, ?_⟩
    walk_at "j"
    rcases h with ⟨hw, k⟩ | ⟨w, rfl, hwl, hw, k⟩
    · exact need_bad hw (exitX_here (dl := []) (by simp only [belows, below]; exact ⟨True.intro, hb.2.2.1, True.intro⟩) k)
    · refine ⟨a, .str w, rfl, .inl ⟨w, rfl, hwl, hw, ?_⟩⟩
      walk_at "j"
      refine ⟨d, qs, w, a, g, s, rfl, ma, hq, hq60, hw, hwl, ?_⟩
      refine ⟨ledI a g qs w, rfl, by unfold ledI; rw [List.length_map]; exact hq60, fun ys hs hm => ?_⟩
      walk_at "j"
      refine x_tuple (xs := intDs ys) rfl ?_
      exact exit_here (by simp only [below]; exact ints_below _) (k ys hs hm)
theorem r_turn {KF : PySem.W.Frag} {ds S K X} (h : sp_turn KF ds S K X) (hb : belows S.length ds) (hS : belows S.length S) : u_turn KF (endsOf S K X) (startD ["machine", "states", "word", "found"] ds) S := by
  obtain ⟨d, v, wd, a, g, s, rfl, ma, h64, hv, h⟩ := h
  simp only [belows] at hb
  show u_turn KF (endsOf S K X) [some d, some v, some wd, none] S
  unfold u_turn
  walk_at "j"
  rcases h with ⟨h6, k⟩ | ⟨h6, hset, k⟩ | ⟨h6, hset, qs, rfl, hq60, hq, h⟩
  · exact ⟨_, _, a, g, s, rfl, ma, h64, hv, .inl ⟨h6, exitX_here (dl := []) (by simp only [belows, below, and_true]) k⟩⟩
  · exact ⟨_, _, a, g, s, rfl, ma, h64, hv, .inr (.inl ⟨h6, hset, exitX_here (dl := []) (by simp only [belows, below]; exact ⟨True.intro, hb.2.1, True.intro⟩) k⟩)⟩
  · refine ⟨_, _, a, g, s, rfl, ma, h64, hv, .inr (.inr ⟨h6, hset, ?_⟩)⟩
    walk_at "j"
    refine ⟨_, _, _, _, ma.ins, List.mem_cons_self, ?_⟩
    refine ⟨_, _, _, _, rfl, ma, ?_⟩
    walk_at "j"
    rcases h with ⟨hw, k⟩ | ⟨w, rfl, hwl, hw, k⟩
    · exact need_bad hw (exitX_here (dl := []) (by simp only [belows, below]; exact ⟨True.intro, hb.2.2.1, True.intro⟩) k)
    · refine ⟨a, .str w, rfl, .inl ⟨w, rfl, hwl, hw, ?_⟩⟩
      walk_at "j"
      refine ⟨d, qs, w, a, g, s, rfl, ma, hq, hq60, hw, hwl, ?_⟩
      walk_at "j"
      refine x_sortU (by unfold ledI; rw [List.length_map]; omega) (fun ys hp hs => ?_)
      walk_at "j"
      refine x_tuple (xs := intDs ys) rfl ?_
      walk_at "j"
      refine x_eqTI ?_
      have k := k ys hp hs
      refine x_ite (fun e => ?_) (fun e => ?_)
      · rw [if_pos (of_decide_eq_true e)] at k
        walk_at "j"
        exact exit_here (by simp only [below]; exact ints_below _) k
      · rw [if_neg (of_decide_eq_false e)] at k
        walk_at "j"
        exact exit_here (by simp only [below]) k
end DL
namespace DL
open PySem L2
local macro_rules | `(tactic| walk_at "e1") => `(tactic| with_reducible first
  | refine x_var rfl ?_ | refine x_c ?_ | refine x_op ?_ | refine x_un ?_ | refine x_nil ?_ | refine x_cons ?_ | refine x_tup ?_ | refine x_lst ?_ | refine x_lstC ?_ | refine x_cb ?_ | refine x_call ?_ | refine x_if ?_
  | refine x_test ?_ | refine x_and ?_ | refine x_or ?_ | refine x_not ?_ | refine x_tru ?_ | refine x_andV ?_ | refine x_orV ?_ | refine x_notV ?_ | refine x_yes ?_ | refine x_chain ?_
  | refine x_bm ?_ | refine x_bm0 ?_ | refine x_part ?_ | refine x_no ?_ | refine x_sl ?_ | refine x_seqI ?_ | refine x_r1 ?_ | refine x_r2 ?_ | refine x_z ?_ | refine x_lc ?_ | refine x_lcC ?_ | refine x_lcW ?_ | refine x_fld ?_ | refine x_meth ?_ | refine x_prop ?_ | refine x_make ?_ | refine x_en ?_ | refine x_makeK ?_ | refine x_joined ?_ | refine x_jn ?_ | refine x_jc ?_ | refine x_enK ?_ | refine x_dget ?_ | refine x_sortset ?_ | refine x_give ?_ | refine x_lam ?_)
local macro_rules | `(tactic| walk_at "s1") => `(tactic| with_reducible first
  | refine x_seq ?_ | refine x_next ?_ | refine x_break ?_ | refine x_cont ?_ | refine x_drop ?_ | refine x_ret ?_ | refine x_retN ?_ | refine x_ifS ?_ | refine x_set ?_ | refine x_asg ?_ | refine x_par ?_ | refine x_gsub ?_ | refine x_gnil ?_ | refine x_gcons ?_ | refine x_setF ?_ | refine x_for ?_ | refine x_raise ?_ | refine x_rz1 ?_ | refine x_rz0 ?_)
local macro_rules | `(tactic| walk_at "g1") => `(tactic| first
  | with_reducible refine x_iteT ?_ | with_reducible refine x_iteF ?_ | with_reducible refine x_tN ?_ | with_reducible refine x_tB ?_ | with_reducible refine x_tI ?_ | with_reducible refine x_tT ?_ | with_reducible refine x_tL ?_
  | with_reducible refine x_addI ?_ | with_reducible refine x_sub ?_ | with_reducible refine x_ltI ?_ | with_reducible refine x_leI ?_ | with_reducible refine x_gtI ?_ | with_reducible refine x_geI ?_ | with_reducible refine x_ltS ?_ | with_reducible refine x_leS ?_ | with_reducible refine x_gtS ?_ | with_reducible refine x_geS ?_
  | with_reducible refine x_eqI ?_ | with_reducible refine x_eqS ?_ | with_reducible refine x_eqB ?_ | with_reducible refine x_neI ?_ | with_reducible refine x_neS ?_ | with_reducible refine x_neB ?_ | with_reducible refine x_neg ?_
  | with_reducible refine x_inS ?_ | with_reducible refine x_notinS ?_ | with_reducible refine x_intI ?_ | with_reducible refine x_intB ?_ | with_reducible refine x_abs ?_ | with_reducible refine x_slL ?_ | with_reducible refine x_slT ?_ | with_reducible refine x_min2 ?_ | with_reducible refine x_max2 ?_
  | ((with_reducible refine x_is ?_ ?_); · rfl) | ((with_reducible refine x_isnot ?_ ?_); · rfl) | ((with_reducible refine x_isiD ?_ ?_ ?_); (next => rfl); (next => decide)) | ((with_reducible refine x_isiD2 ?_ ?_ ?_ ?_); (next => rfl); (next => decide); (next => decide)) | ((with_reducible refine x_name ?_ ?_); · exact of_decide_eq_true rfl) | ((with_reducible refine x_gtup ?_ ?_); · rfl))
local macro_rules | `(tactic| walk_at "d") => `(tactic| repeat (first | walk_at "e1" | walk_at "s1" | walk_at "g1" | ((with_reducible refine x_putL ?_ ?_); · rfl) | ((with_reducible refine x_szL ?_ ?_); · rfl) | dsimp only [List.set_cons_succ, List.set_cons_zero]))
local macro_rules | `(tactic| walk_at "i") => `(tactic| repeat (first | walk_at "e1" | walk_at "s1" | walk_at "g1" | ((with_reducible refine x_putL ?_ ?_); · rfl) | ((with_reducible refine x_szL ?_ ?_); · rfl) | ((with_reducible refine x_iteT2 ?_ ?_); · rfl) | ((with_reducible refine x_iteF2 ?_ ?_); · rfl) | dsimp only [List.set_cons_succ, List.set_cons_zero]))
local macro_rules | `(tactic| walk_at "g2") => `(tactic| with_reducible first | refine x_ixt0 ?_ | refine x_ixt1 ?_ | refine x_ixt2 ?_ | refine x_ixt3 ?_ | refine x_lenT ?_)
local macro_rules | `(tactic| walk_at "j") => `(tactic| repeat (first | walk_at "e1" | walk_at "s1" | walk_at "g1" | walk_at "g2" | ((with_reducible refine x_inTi ?_ ?_); · rfl) | ((with_reducible refine x_inTn ?_ ?_); · rfl) | ((with_reducible refine x_putL ?_ ?_); · rfl) | ((with_reducible refine x_szL ?_ ?_); · rfl) | ((with_reducible refine x_iteT2 ?_ ?_); · rfl) | ((with_reducible refine x_iteF2 ?_ ?_); · rfl) | dsimp only [List.set_cons_succ, List.set_cons_zero]))
/-! plain laws of sorted lists -/
theorem lt_eq {a b : List Int} (h1 : a.Pairwise (· < ·)) (h2 : b.Pairwise (· < ·)) (hm : ∀ k, k ∈ a ↔ k ∈ b) : a = b := by
  have n1 : a.Nodup := h1.imp fun h => Int.ne_of_lt h
  have n2 : b.Nodup := h2.imp fun h => Int.ne_of_lt h
  exact List.Perm.eq_of_pairwise (le := fun a b : Int => a < b) (fun x y _ _ h3 h4 => absurd (Int.lt_trans h3 h4) (Int.lt_irrefl _)) h1 h2 ((List.perm_ext_iff_of_nodup n1 n2).mpr hm)
theorem lt_of_le {a : List Int} (h : a.Pairwise (· ≤ ·)) (nd : a.Nodup) : a.Pairwise (· < ·) := by
  induction a with
  | nil => exact .nil
  | cons x r ih =>
    rw [List.pairwise_cons] at h ⊢
    rw [List.nodup_cons] at nd
    exact ⟨fun y hy => Int.lt_iff_le_and_ne.mpr ⟨h.1 y hy, fun e => nd.1 (e ▸ hy)⟩, ih h.2 nd.2⟩
theorem nodup_perm : ∀ {a b : List Int}, a.Nodup → (∀ x ∈ a, x ∈ b) → b.length ≤ a.length → a.Perm b
  | [], b, _, _, hl => by
    cases b with
    | nil => exact .nil
    | cons y r => simp at hl
  | x :: r, b, nd, hs, hl => by
    rw [List.nodup_cons] at nd
    have hx := hs x List.mem_cons_self
    have hle := List.length_erase_of_mem hx
    have hlen : b.length = (b.erase x).length + 1 := by
      have : 0 < b.length := List.length_pos_of_mem hx
      omega
    have := nodup_perm (a := r) (b := b.erase x) nd.2 (fun y hy => (List.mem_erase_of_ne (a := y) (b := x) (fun (e : y = x) => nd.1 (by rw [← e]; exact hy))).mpr (hs y (List.mem_cons_of_mem _ hy))) (by rw [List.length_cons] at hl; omega)
    exact (this.cons x).trans (List.perm_cons_erase hx).symm
/-- the sorted led states are the set iff their set is -/
theorem turn_eq {led ys zs qs : List Int} (hp : ys.Perm led) (hs : ys.Pairwise (· ≤ ·)) (hz : zs.Pairwise (· < ·)) (hm : ∀ k, k ∈ zs ↔ k ∈ led) (hq : qs.Pairwise (· < ·)) (hl : qs.length = led.length) : ys = qs ↔ zs = qs := by
  constructor
  · intro e
    have : ys.Pairwise (· < ·) := by rw [e]; exact hq
    rw [← e]
    exact lt_eq hz this fun k => (hm k).trans hp.mem_iff.symm
  · intro e
    have nz : zs.Nodup := hz.imp fun h => Int.ne_of_lt h
    have hpz : zs.Perm led := nodup_perm nz (fun x hx => (hm x).mp hx) (by rw [e, hl]; exact Nat.le_refl _)
    have ny : ys.Nodup := (hp.trans hpz.symm).nodup_iff.mpr nz
    rw [← e]
    exact lt_eq (lt_of_le hs ny) hz fun k => hp.mem_iff.trans (hm k).symm
/-! the keys of a dict made of pairs -/
theorem any_mem {A : List (Key × Dat)} {k : Key} : (A.any fun p => decide (p.1 = k)) = true ↔ k ∈ A.map (·.1) := by
  rw [List.any_eq_true]
  constructor
  · rintro ⟨p, hp, e⟩
    exact List.mem_map.mpr ⟨p, hp, of_decide_eq_true e⟩
  · intro h
    obtain ⟨p, hp, e⟩ := List.mem_map.mp h
    exact ⟨p, hp, decide_eq_true e⟩
theorem putD_keys {A : List (Key × Dat)} {k : Key} {d : Dat} : (k ∈ A.map (·.1) ∧ (putD A k d).map (·.1) = A.map (·.1)) ∨ (k ∉ A.map (·.1) ∧ (putD A k d).map (·.1) = A.map (·.1) ++ [k]) := by
  unfold putD
  by_cases e : (A.any fun p => decide (p.1 = k)) = true
  · rw [if_pos e, List.map_map]
    refine .inl ⟨any_mem.mp e, List.map_congr_left fun p _ => ?_⟩
    show (if p.1 = k then (p.1, d) else p).1 = p.1
    split <;> rfl
  · rw [if_neg e, List.map_append]
    exact .inr ⟨fun z => e (any_mem.mpr z), rfl⟩
theorem merge_keys : ∀ {B A : List (Key × Dat)}, (A.map (·.1)).Nodup → ((mergeD A B).map (·.1)).Nodup ∧ ∀ k, k ∈ (mergeD A B).map (·.1) ↔ k ∈ A.map (·.1) ∨ k ∈ B.map (·.1)
  | [], A, h => ⟨h, fun k => by simp [mergeD]⟩
  | (k0, d) :: B, A, h => by
    rcases putD_keys (A := A) (k := k0) (d := d) with ⟨z, e⟩ | ⟨z, e⟩
    · obtain ⟨h3, h4⟩ := merge_keys (B := B) (A := putD A k0 d) (by rw [e]; exact h)
      refine ⟨h3, fun k => (h4 k).trans ?_⟩
      rw [e, List.map_cons, List.mem_cons]
      constructor
      · rintro (h | h)
        · exact .inl h
        · exact .inr (.inr h)
      · rintro (h | rfl | h)
        · exact .inl h
        · exact .inl z
        · exact .inr h
    · obtain ⟨h3, h4⟩ := merge_keys (B := B) (A := putD A k0 d) (by
        rw [e, List.nodup_append]
        exact ⟨h, by simp, fun x hx y hy => by rw [List.mem_singleton.mp hy]; exact fun q => z (by rw [← q]; exact hx)⟩)
      refine ⟨h3, fun k => (h4 k).trans ?_⟩
      rw [e, List.mem_append, List.mem_singleton, List.map_cons, List.mem_cons]
      constructor
      · rintro ((h | h) | h)
        · exact .inl h
        · exact .inr (.inl h)
        · exact .inr (.inr h)
      · rintro (h | h | h)
        · exact .inl (.inl h)
        · exact .inl (.inr h)
        · exact .inr h
/-- the keys of dict([(q, v) for q in led]) as ints -/
theorem merge_ints (led : List Int) (d : Dat) : ∃ ks : List Int, (mergeD [] (led.map fun q => ((.inl q : Key), d))).map (·.1) = ks.map Sum.inl ∧ ks.Nodup ∧ ∀ k, k ∈ ks ↔ k ∈ led := by
  obtain ⟨h1, h2⟩ := merge_keys (A := []) (B := led.map fun q => ((.inl q : Key), d)) List.nodup_nil
  generalize (mergeD [] (led.map fun q => ((.inl q : Key), d))).map (·.1) = K at h1 h2
  have hall : ∀ k ∈ K, ∃ q ∈ led, k = .inl q := fun k hk => by
    rcases (h2 k).mp hk with h | h
    · cases h
    · rw [List.map_map] at h
      obtain ⟨q, hq, rfl⟩ := List.mem_map.mp h
      exact ⟨q, hq, rfl⟩
  have hin : ∀ q ∈ led, (.inl q : Key) ∈ K := fun q hq => (h2 _).mpr (.inr (by rw [List.map_map]; exact List.mem_map.mpr ⟨q, hq, rfl⟩))
  have hk : ∃ ks : List Int, K = ks.map Sum.inl := by
    clear h1 h2 hin
    induction K with
    | nil => exact ⟨[], rfl⟩
    | cons k r ih =>
      obtain ⟨ks, e⟩ := ih fun k hk => hall k (List.mem_cons_of_mem _ hk)
      obtain ⟨q, _, rfl⟩ := hall k List.mem_cons_self
      exact ⟨q :: ks, by rw [e]; rfl⟩
  obtain ⟨ks, rfl⟩ := hk
  refine ⟨ks, rfl, ?_, fun k => ⟨fun h => ?_, fun h => ?_⟩⟩
  · exact List.Pairwise.of_map _ (fun a b hne e => hne (by rw [e])) h1
  · obtain ⟨q, hq, e⟩ := hall _ (List.mem_map.mpr ⟨k, h, rfl⟩)
    cases e; exact hq
  · obtain ⟨x, hx, e⟩ := List.mem_map.mp (hin k h)
    cases e; exact hx
/-! sets of reachable states -/
theorem asc_of_lt : ∀ {l : List Nat}, l.Pairwise (· < ·) → ascL l = true
  | [], _ => rfl
  | [a], _ => rfl
  | a :: b :: r, h => by
    rw [List.pairwise_cons] at h
    simp only [ascL, Bool.and_eq_true, decide_eq_true_eq]
    exact ⟨h.1 b List.mem_cons_self, asc_of_lt h.2⟩
theorem natOf_up (qs : List Nat) : (intDs (upI qs)).map natOf = qs := by
  unfold intDs upI
  rw [List.map_map, List.map_map]
  conv => rhs; rw [← List.map_id qs]
  exact List.map_congr_left fun q _ => Int.toNat_natCast q
theorem ge_up (qs : List Nat) : (intDs (upI qs)).all geB = true := List.all_eq_true.mpr fun x hx => by
  unfold intDs upI at hx
  rw [List.map_map] at hx
  obtain ⟨q, _, rfl⟩ := List.mem_map.mp hx
  exact decide_eq_true (Int.natCast_nonneg q)
theorem set_ok {R qs : List Nat} (h0 : qs ≠ []) (hs : qs.Pairwise (· < ·)) (hm : ∀ q ∈ qs, q ∈ R) : isSetB R (.tup (intDs (upI qs))) = true := by
  show (decide ((intDs (upI qs)).length ≠ 0) && ((intDs (upI qs)).all geB && (ascL ((intDs (upI qs)).map natOf) && ((intDs (upI qs)).map natOf).all fun q => decide (q ∈ R)))) = true
  rw [natOf_up, ge_up, asc_of_lt hs]
  have h1 : (qs.all fun q => decide (q ∈ R)) = true := List.all_eq_true.mpr fun q hq => decide_eq_true (hm q hq)
  have h2 : decide ((intDs (upI qs)).length ≠ 0) = true := decide_eq_true (by
    unfold intDs upI
    rw [List.length_map, List.length_map]
    exact fun e => h0 (List.eq_nil_of_length_eq_zero e))
  rw [h1, h2]; rfl
theorem ints_kindI {S : Store} (g : List Int) : ∀ x ∈ intDs g, okKind S x := fun x hx => by
  obtain ⟨n, _, rfl⟩ := List.mem_map.mp hx
  exact ⟨"int", rfl, by decide⟩
theorem set_kind {S : Store} {g : List Int} (h : g.length ≤ 1000000) : okRowK S (.tup (intDs g)) := ⟨⟨"tuple", rfl, by decide⟩, fun xs e => by
  cases e
  exact ⟨by rw [List.length_map]; exact h, ints_kindI g⟩⟩
/-- data that is no set of reachable states -/
structure NoSet (R : List Nat) (v : Dat) : Prop where
  kind : ∀ S, okRowK S v
  bad : isSetB R v = false
  same : ∀ S n, SameD S (n + 2) v v
  bel : ∀ n, below n v
end DL
namespace DL
open PySem L2
local macro_rules | `(tactic| walk_at "e1") => `(tactic| with_reducible first
  | refine x_var rfl ?_ | refine x_c ?_ | refine x_op ?_ | refine x_un ?_ | refine x_nil ?_ | refine x_cons ?_ | refine x_tup ?_ | refine x_lst ?_ | refine x_lstC ?_ | refine x_cb ?_ | refine x_call ?_ | refine x_if ?_
  | refine x_test ?_ | refine x_and ?_ | refine x_or ?_ | refine x_not ?_ | refine x_tru ?_ | refine x_andV ?_ | refine x_orV ?_ | refine x_notV ?_ | refine x_yes ?_ | refine x_chain ?_
  | refine x_bm ?_ | refine x_bm0 ?_ | refine x_part ?_ | refine x_no ?_ | refine x_sl ?_ | refine x_seqI ?_ | refine x_r1 ?_ | refine x_r2 ?_ | refine x_z ?_ | refine x_lc ?_ | refine x_lcC ?_ | refine x_lcW ?_ | refine x_fld ?_ | refine x_meth ?_ | refine x_prop ?_ | refine x_make ?_ | refine x_en ?_ | refine x_makeK ?_ | refine x_joined ?_ | refine x_jn ?_ | refine x_jc ?_ | refine x_enK ?_ | refine x_dget ?_ | refine x_give ?_ | refine x_lam ?_)
local macro_rules | `(tactic| walk_at "s1") => `(tactic| with_reducible first
  | refine x_seq ?_ | refine x_next ?_ | refine x_break ?_ | refine x_cont ?_ | refine x_drop ?_ | refine x_ret ?_ | refine x_retN ?_ | refine x_ifS ?_ | refine x_set ?_ | refine x_asg ?_ | refine x_par ?_ | refine x_gsub ?_ | refine x_gnil ?_ | refine x_gcons ?_ | refine x_setF ?_ | refine x_for ?_ | refine x_raise ?_ | refine x_rz1 ?_ | refine x_rz0 ?_)
local macro_rules | `(tactic| walk_at "g1") => `(tactic| first
  | with_reducible refine x_iteT ?_ | with_reducible refine x_iteF ?_ | with_reducible refine x_tN ?_ | with_reducible refine x_tB ?_ | with_reducible refine x_tI ?_ | with_reducible refine x_tT ?_ | with_reducible refine x_tL ?_
  | with_reducible refine x_addI ?_ | with_reducible refine x_sub ?_ | with_reducible refine x_ltI ?_ | with_reducible refine x_leI ?_ | with_reducible refine x_gtI ?_ | with_reducible refine x_geI ?_ | with_reducible refine x_ltS ?_ | with_reducible refine x_leS ?_ | with_reducible refine x_gtS ?_ | with_reducible refine x_geS ?_
  | with_reducible refine x_eqI ?_ | with_reducible refine x_eqS ?_ | with_reducible refine x_eqB ?_ | with_reducible refine x_neI ?_ | with_reducible refine x_neS ?_ | with_reducible refine x_neB ?_ | with_reducible refine x_neg ?_
  | with_reducible refine x_inS ?_ | with_reducible refine x_notinS ?_ | with_reducible refine x_intI ?_ | with_reducible refine x_intB ?_ | with_reducible refine x_abs ?_ | with_reducible refine x_slL ?_ | with_reducible refine x_slT ?_ | with_reducible refine x_min2 ?_ | with_reducible refine x_max2 ?_
  | ((with_reducible refine x_is ?_ ?_); · rfl) | ((with_reducible refine x_isnot ?_ ?_); · rfl) | ((with_reducible refine x_isiD ?_ ?_ ?_); (next => rfl); (next => decide)) | ((with_reducible refine x_isiD2 ?_ ?_ ?_ ?_); (next => rfl); (next => decide); (next => decide)) | ((with_reducible refine x_name ?_ ?_); · exact of_decide_eq_true rfl) | ((with_reducible refine x_gtup ?_ ?_); · rfl))
local macro_rules | `(tactic| walk_at "d") => `(tactic| repeat (first | walk_at "e1" | walk_at "s1" | walk_at "g1" | ((with_reducible refine x_putL ?_ ?_); · rfl) | ((with_reducible refine x_szL ?_ ?_); · rfl) | dsimp only [List.set_cons_succ, List.set_cons_zero]))
local macro_rules | `(tactic| walk_at "i") => `(tactic| repeat (first | walk_at "e1" | walk_at "s1" | walk_at "g1" | ((with_reducible refine x_putL ?_ ?_); · rfl) | ((with_reducible refine x_szL ?_ ?_); · rfl) | ((with_reducible refine x_iteT2 ?_ ?_); · rfl) | ((with_reducible refine x_iteF2 ?_ ?_); · rfl) | dsimp only [List.set_cons_succ, List.set_cons_zero]))
local macro_rules | `(tactic| walk_at "g2") => `(tactic| with_reducible first | refine x_ixt0 ?_ | refine x_ixt1 ?_ | refine x_ixt2 ?_ | refine x_ixt3 ?_ | refine x_lenT ?_)
local macro_rules | `(tactic| walk_at "j") => `(tactic| repeat (first | walk_at "e1" | walk_at "s1" | walk_at "g1" | walk_at "g2" | ((with_reducible refine x_inTi ?_ ?_); · rfl) | ((with_reducible refine x_inTn ?_ ?_); · rfl) | ((with_reducible refine x_putL ?_ ?_); · rfl) | ((with_reducible refine x_szL ?_ ?_); · rfl) | ((with_reducible refine x_iteT2 ?_ ?_); · rfl) | ((with_reducible refine x_iteF2 ?_ ?_); · rfl) | dsimp only [List.set_cons_succ, List.set_cons_zero]))
theorem asc_nodup : ∀ {l : List Nat}, ascL l = true → l.Nodup ∧ ∀ a r, l = a :: r → ∀ x ∈ r, a < x
  | [], _ => ⟨List.nodup_nil, fun a r e => by cases e⟩
  | [a], _ => ⟨by simp, fun b r e x hx => by cases e; cases hx⟩
  | a :: b :: r, h => by
    simp only [ascL, Bool.and_eq_true, decide_eq_true_eq] at h
    obtain ⟨nd, hl⟩ := asc_nodup h.2
    have hab : ∀ x ∈ b :: r, a < x := fun x hx => by
      rcases List.mem_cons.mp hx with rfl | hx
      · exact h.1
      · have := hl b r rfl x hx; omega
    exact ⟨List.nodup_cons.mpr ⟨fun hx => absurd (hab a hx) (Nat.lt_irrefl _), nd⟩, fun a' r' e => by cases e; exact hab⟩
def BL (a : Str) (g : List (List Nat)) (s : Nat) (ps : List (Nat × Str)) : Prop := ∀ p ∈ ps, isWord a p.2 = true ∧ ledF a g s p.2.cps.toList = p.1
theorem cps_sgn (w : Str) (c : Nat) : (w ++ sgn c).cps.toList = w.cps.toList ++ [c] := by
  show (w.cps ++ (sgn c).cps).toList = _
  rw [Array.toList_append]; rfl
theorem BL.row {a : Str} {g : List (List Nat)} {s q : Nat} {w : Str} (hw : isWord a w = true) (hl : ledF a g s w.cps.toList = q) : ∀ {r : List (Nat × Nat)} {ps : List (Nat × Str)}, BL a g s ps → (∀ x ∈ r, x.2 ∈ a.cps.toList ∧ (g.getD q []).getD (a.cps.toList.idxOf x.2) 0 = x.1) → BL a g s (bfsRow w r ps)
  | [], ps, h, _ => h
  | (q', c) :: r, ps, h, hr => by
    unfold bfsRow
    refine BL.row hw hl ?_ fun x hx => hr x (List.mem_cons_of_mem _ hx)
    by_cases e : q' ∈ ps.map (·.1)
    · rw [if_pos e]; exact h
    · rw [if_neg e]
      intro p hp
      rcases List.mem_append.mp hp with hp | hp
      · exact h p hp
      · rw [List.mem_singleton.mp hp]
        obtain ⟨h1, h2⟩ := hr (q', c) List.mem_cons_self
        constructor
        · show isWord a (w ++ sgn c) = true
          unfold isWord
          rw [cps_sgn, List.all_append]
          unfold isWord at hw
          rw [hw]
          show (true && (decide (c ∈ a.cps.toList) && true)) = true
          rw [decide_eq_true h1]; rfl
        · show ledF a g s (w ++ sgn c).cps.toList = q'
          rw [cps_sgn, led_snoc, hl]
          exact h2
theorem zip_ix {a : Str} {row : List Nat} (nd : a.cps.toList.Nodup) : ∀ x ∈ row.zip a.cps.toList, x.2 ∈ a.cps.toList ∧ row.getD (a.cps.toList.idxOf x.2) 0 = x.1 := fun x hx => by
  obtain ⟨i, hi⟩ := List.getElem?_of_mem hx
  obtain ⟨h1, h2⟩ := List.getElem?_zip_eq_some.mp hi
  obtain ⟨hl, h3⟩ := List.getElem?_eq_some_iff.mp h2
  refine ⟨(List.of_mem_zip hx).2, ?_⟩
  rw [← h3, nd.idxOf_getElem i hl]
  simp [List.getD, h1]
theorem reach_led {a : Str} {g : List (List Nat)} {s m : Nat} (hz : isAlpha a = true) (ok : okRows a.length g) (hm : m = g.length) : ∀ {n i : Nat} {ps : List (Nat × Str)}, BOk m ps → BL a g s ps → BL a g s (bfs a g n i ps)
  | 0, i, ps, _, h => h
  | n + 1, i, ps, bo, h => by
    unfold bfs
    cases e : ps[i]? with
    | none => exact h
    | some p =>
      obtain ⟨q, w⟩ := p
      have hm2 := List.mem_of_getElem? e
      have hq : q < m := bo.lt _ hm2
      obtain ⟨h1, h2⟩ := h _ hm2
      exact reach_led hz ok hm (bfsRow_ok bo (bo.wl _ hm2) fun x hx => by rw [hm]; exact zip_lt ok (by omega) x hx).1 (BL.row h1 h2 h (zip_ix (asc_nodup (alpha_len hz).2.2).1))
theorem merge_kp : ∀ {B A : List (Nat × Str)}, ((A ++ B).map (·.1)).Nodup → mergeD (A.map kp) (B.map kp) = (A ++ B).map kp
  | [], A, _ => by simp [mergeD]
  | (q, w) :: B, A, nd => by
    have hn : q ∉ A.map (·.1) := by
      rw [List.map_append, List.nodup_append] at nd
      exact fun z => nd.2.2 q z q (by simp) rfl
    have := merge_kp (B := B) (A := A ++ [(q, w)]) (by simpa using nd)
    show mergeD (putD (A.map kp) (.inl (q : Int)) (.str w)) (B.map kp) = _
    rw [put_new hn, this]
    simp
theorem val_cases {ps : List (Nat × Str)} (nd : (ps.map (·.1)).Nodup) (q : Nat) : (q ∉ ps.map (·.1) ∧ valD (ps.map kp) (.inl (q : Int)) = none) ∨ ∃ w, (q, w) ∈ ps ∧ valD (ps.map kp) (.inl (q : Int)) = some (.str w) := by
  by_cases e : q ∈ ps.map (·.1)
  · obtain ⟨⟨q', w⟩, h, rfl⟩ := List.mem_map.mp e
    exact .inr ⟨w, h, val_at nd h⟩
  · refine .inl ⟨e, ?_⟩
    have := val_some (q := q) (ps := ps)
    rw [decide_eq_false e] at this
    exact Option.not_isSome_iff_eq_none.mp (by rw [this]; decide)
end DL
/-! S14: k14's law. -/
namespace DL
open PySem L2
def errs : List PySem.Str := ["TooMany", "InvalidSet", "InvalidWord"]
def top (i : Nat) : Stmt := PySem.Challenge.pw_onlyahead_k14_images_and_turns_of_words.main.body.getD i (.Pass ⟨0, 0, 0, 0⟩)
abbrev s_law : Stmt := top 56
def lam_law_0 : LamI := lamOf 0 "law.<locals>.<lambda>" none (part (subE (stAt (subB (stAt (subB s_law) 1)) 11)) 0)
def ul_law_0 (K : PySem.W.Frag) : UE :=
  (uCall (sp_image K) [] (uCons (uVar 0) (uCons (uVar 1) (uCons (uVar 2) uNil))))
def row_law_0 (K : PySem.W.Frag) : LamRow := ⟨lam_law_0, ["_law_made", "_law_some_set", "_law_text_here"], ["_law_made", "_law_some_set", "_law_text_here"], [7, 9, 10], ul_law_0 K⟩
def lam_law_1 : LamI := lamOf 1 "law.<locals>.<lambda>" (some "_law_a") (part (subE (stAt (subB (stAt (subB s_law) 1)) 11)) 1)
def ul_law_1 (K : PySem.W.Frag) : UE :=
  (uCall (sp_turn K) [] (uCons (uVar 1) (uCons (uVar 2) (uCons (uVar 3) uNil))))
def row_law_1 (K : PySem.W.Frag) : LamRow := ⟨lam_law_1, ["_law_a", "_law_made", "_law_some_set", "_law_text_here"], ["_law_made", "_law_some_set", "_law_text_here"], [7, 9, 10], ul_law_1 K⟩
def lam_law_2 : LamI := lamOf 2 "law.<locals>.<lambda>" none (part (subE (stAt (subB (stAt (subB s_law) 1)) 17)) 0)
def ul_law_2 (K : PySem.W.Frag) : UE :=
  (uCall (sp_image K) [] (uCons (uVar 0) (uCons (uVar 1) (uCons (uVar 2) uNil))))
def row_law_2 (K : PySem.W.Frag) : LamRow := ⟨lam_law_2, ["_law_made", "_law_odd", "_law_strange"], ["_law_made", "_law_odd", "_law_strange"], [7, 16, 17], ul_law_2 K⟩
def lam_law_3 : LamI := lamOf 3 "law.<locals>.<lambda>" (some "_law_a") (part (subE (stAt (subB (stAt (subB s_law) 1)) 17)) 1)
def ul_law_3 (K : PySem.W.Frag) : UE :=
  (uCall (sp_turn K) [] (uCons (uVar 1) (uCons (uVar 2) (uCons (uVar 3) uNil))))
def row_law_3 (K : PySem.W.Frag) : LamRow := ⟨lam_law_3, ["_law_a", "_law_made", "_law_some_set", "_law_strange"], ["_law_made", "_law_some_set", "_law_strange"], [7, 9, 17], ul_law_3 K⟩
def rows_law (K : PySem.W.Frag) : List LamRow := [row_law_0 K, row_law_1 K, row_law_2 K, row_law_3 K]
def u_law (K : PySem.W.Frag) (cl : List (Str × Addr)) : US :=
  (uSeq (uSet 1 (uCall (sp_law_bag K) [] (uCons (uVar 0) uNil)))
    (uSeq (uFor (uR1 (uCons (uC (.int 5)) uNil)) (uName 2) (uSeq (uSet 3 (uCall (sp_law_signs K) [] (uCons (uVar 1) uNil)))
    (uSeq (uSet 4 (uOp gAdd (uC (.int 1)) (uCall (sp_law_pull K) [] (uCons (uVar 1) (uCons (uC (.int 8)) uNil)))))
    (uSeq (uAsg (uTup (uCons (uCall (sp_law_goals K) [] (uCons (uVar 1) (uCons (uVar 4) (uCons (uCB gLen (uCons (uVar 3) uNil)) uNil)))) (uCons (uCall (sp_law_pull K) [] (uCons (uVar 1) (uCons (uVar 4) uNil))) uNil))) (uGTup 2 (uGCons (uName 5) (uGCons (uName 6) uGNil))))
    (uSeq (uSet 7 (uMakeK (He.ga K "Machine") (sp_Machine_init K) 2 1 (gAp []) (uCons (uVar 3) (uCons (uVar 5) uNil)) (uCons (uVar 6) uNil)))
    (uSeq (uSet 8 (uCB gSortI (uCons (uLc (uSeqI (uCall (sp_law_reach K) [] (uCons (uVar 5) (uCons (uVar 3) (uCons (uVar 6) uNil))))) [18, 10] (uGTup 2 (uGCons (uName 18) (uGCons (uName 10) uGNil))) uYes (uVar 18)) uNil)))
    (uSeq (uSet 9 (uCB gTupleC (uCons (uLc (uSeqI (uVar 8)) [18] (uName 18) (uTest (uOp gEq (uCall (sp_law_pull K) [] (uCons (uVar 1) (uCons (uC (.int 2)) uNil))) (uC (.int 0)))) (uVar 18)) uNil)))
    (uSeq (uSet 9 (uIf (uTest (uOp gNe (uVar 9) (uTup uNil))) (uVar 9) (uTup (uCons (uOp gIx (uVar 8) (uC (.int 0))) uNil))))
    (uSeq (uSet 10 (uCall (sp_law_text K) [] (uCons (uVar 1) (uCons (uVar 3) (uCons (uCall (sp_law_of K) [] (uCons (uVar 1) (uCons (uLst (uCons (uC (.int 0)) (uCons (uC (.int 1)) (uCons (uC (.int 2)) (uCons (uC (.int 3)) (uCons (uCall (sp_law_pull K) [] (uCons (uVar 1) (uCons (uC (.int 21)) uNil))) uNil)))))) uNil))) uNil)))))
    (uSeq (uSet 11 (uLc (uSeqI (uVar 9)) [18] (uName 18) uYes (uCall (sp_law_go K) [] (uCons (uVar 5) (uCons (uVar 3) (uCons (uVar 18) (uCons (uVar 10) uNil)))))))
    (uSeq (uSet 12 (uLstC (uCons (uCB gTupleC (uCons (uCB gSortI (uCons (uCB (gKeys false) (uCons (uCB gDictP (uCons (uLc (uSeqI (uVar 11)) [18] (uName 18) uYes (uTup (uCons (uVar 18) (uCons (uC (.int 0)) uNil)))) uNil)) uNil)) uNil)) uNil)) (uCons (uC .non) uNil))))
    (uSeq (uIfS (uTest (uOp gEq (uOp gIx (uVar 12) (uC (.int 0))) (uVar 9))) (uAsg (uCB gTupleC (uCons (uVar 11) uNil)) (uGSub (uVar 12) (uC (.int 1)) gSetL)) uNext)
    (uSeq (uSet 13 (uLst (uCons (uLam lam_law_0 cl) (uCons (uLam lam_law_1 cl) uNil))))
    (uSeq (uSet 14 (uTup (uCons (uC (.str "TooMany")) (uCons (uTup (uCons (uC (.str "states")) (uCons (uC (.int 6)) uNil))) uNil))))
    (uSeq (uIfS (uNot (uTru (uCall (sp_law_same K 6) [] (uCons (uGive (fun B => sp_law_all_got B (mtC errs K)) (rowsTab cl (rows_law K)) (uCons (uVar 13) uNil)) (uCons (uLc (uSeqI (uVar 12)) [19] (uName 19) uYes (uIf (uTest (uOp gLt (uCB gLen (uCons (uVar 8) uNil)) (uC (.int 7)))) (uTup (uCons (uC (.str "")) (uCons (uVar 19) uNil))) (uVar 14))) uNil))))) (uRet (uC (.bl false))) uNext)
    (uSeq (uSet 15 (uLc (uR1 (uCons (uVar 4) uNil)) [18] (uName 18) (uTest (uOp (gIn (!·)) (uVar 18) (uVar 8))) (uVar 18)))
    (uSeq (uSet 16 (uCall (sp_law_of K) [] (uCons (uVar 1) (uCons (uLst (uCons (uTup uNil) (uCons (uC .non) (uCons (uLst (uCons (uOp gIx (uVar 8) (uC (.int 0))) uNil)) (uCons (uTup (uCons (uOp gIx (uVar 8) (uC (.int 0))) (uCons (uOp gIx (uVar 8) (uC (.int 0))) uNil))) (uCons (uTup (uCons (uOp gIx (uVar 8) (uC (.int 0))) (uCons (uUn gNeg (uC (.int 1))) uNil))) (uCons (uTup (uCons (uC (.bl true)) uNil)) (uCons (uTup (uCons (uC (.str "0")) uNil)) (uCons (uC (.int 3)) (uCons (uOp gAdd (uTup (uCons (uOp gIx (uVar 8) (uC (.int 0))) uNil)) (uTup (uCons (uVar 4) uNil))) (uCons (uOp gAdd (uCB gTupleC (uCons (uRevL (uVar 8)) uNil)) (uTup (uCons (uOp gIx (uVar 8) (uUn gNeg (uC (.int 1)))) uNil))) (uCons (uIf (uTest (uOp gNe (uVar 15) (uLst uNil))) (uTup (uCons (uOp gIx (uVar 15) (uC (.int 0))) uNil)) (uTup uNil)) uNil)))))))))))) uNil))))
    (uSeq (uSet 17 (uCall (sp_law_of K) [] (uCons (uVar 1) (uCons (uLst (uCons (uC .non) (uCons (uC (.str "?")) (uCons (uC (.int 3)) (uCons (uLst (uCons (uOp gIx (uVar 3) (uC (.int 0))) uNil)) uNil))))) uNil))))
    (uSeq (uSet 13 (uLst (uCons (uLam lam_law_2 cl) (uCons (uLam lam_law_3 cl) uNil))))
    (uSeq (uSet 12 (uLstC (uCons (uTup (uCons (uC (.str "InvalidSet")) (uCons (uTup (uCons (uVar 16) uNil)) uNil))) (uCons (uTup (uCons (uC (.str "InvalidWord")) (uCons (uTup (uCons (uVar 17) uNil)) uNil))) uNil))))
    (uIfS (uNot (uTru (uCall (sp_law_same K 6) [] (uCons (uGive (fun B => sp_law_all_got B (mtC errs K)) (rowsTab cl (rows_law K)) (uCons (uVar 13) uNil)) (uCons (uIf (uTest (uOp gLt (uCB gLen (uCons (uVar 8) uNil)) (uC (.int 7)))) (uVar 12) (uLst (uCons (uVar 14) (uCons (uVar 14) uNil)))) uNil))))) (uRet (uC (.bl false))) uNext)))))))))))))))))))))
    (uRet (uC (.bl true)))))
end DL
namespace DL
open PySem L2
local macro_rules | `(tactic| walk_at "e1") => `(tactic| with_reducible first
  | refine x_var rfl ?_ | refine x_c ?_ | refine x_op ?_ | refine x_un ?_ | refine x_nil ?_ | refine x_cons ?_ | refine x_tup ?_ | refine x_lst ?_ | refine x_lstC ?_ | refine x_cb ?_ | refine x_call ?_ | refine x_if ?_
  | refine x_test ?_ | refine x_and ?_ | refine x_or ?_ | refine x_not ?_ | refine x_tru ?_ | refine x_andV ?_ | refine x_orV ?_ | refine x_notV ?_ | refine x_yes ?_ | refine x_chain ?_
  | refine x_bm ?_ | refine x_bm0 ?_ | refine x_part ?_ | refine x_no ?_ | refine x_sl ?_ | refine x_seqI ?_ | refine x_r1 ?_ | refine x_r2 ?_ | refine x_z ?_ | refine x_lc ?_ | refine x_lcC ?_ | refine x_lcW ?_ | refine x_fld ?_ | refine x_meth ?_ | refine x_prop ?_ | refine x_make ?_ | refine x_en ?_ | refine x_makeK ?_ | refine x_joined ?_ | refine x_jn ?_ | refine x_jc ?_ | refine x_enK ?_ | refine x_dget ?_ | refine x_give ?_ | refine x_lam ?_)
local macro_rules | `(tactic| walk_at "s1") => `(tactic| with_reducible first
  | refine x_seq ?_ | refine x_next ?_ | refine x_break ?_ | refine x_cont ?_ | refine x_drop ?_ | refine x_ret ?_ | refine x_retN ?_ | refine x_ifS ?_ | refine x_set ?_ | refine x_asg ?_ | refine x_par ?_ | refine x_gsub ?_ | refine x_gnil ?_ | refine x_gcons ?_ | refine x_setF ?_ | refine x_for ?_ | refine x_raise ?_ | refine x_rz1 ?_ | refine x_rz0 ?_)
local macro_rules | `(tactic| walk_at "g1") => `(tactic| first
  | with_reducible refine x_iteT ?_ | with_reducible refine x_iteF ?_ | with_reducible refine x_tN ?_ | with_reducible refine x_tB ?_ | with_reducible refine x_tI ?_ | with_reducible refine x_tT ?_ | with_reducible refine x_tL ?_
  | with_reducible refine x_addI ?_ | with_reducible refine x_sub ?_ | with_reducible refine x_ltI ?_ | with_reducible refine x_leI ?_ | with_reducible refine x_gtI ?_ | with_reducible refine x_geI ?_ | with_reducible refine x_ltS ?_ | with_reducible refine x_leS ?_ | with_reducible refine x_gtS ?_ | with_reducible refine x_geS ?_
  | with_reducible refine x_eqI ?_ | with_reducible refine x_eqS ?_ | with_reducible refine x_eqB ?_ | with_reducible refine x_neI ?_ | with_reducible refine x_neS ?_ | with_reducible refine x_neB ?_ | with_reducible refine x_neg ?_
  | with_reducible refine x_inS ?_ | with_reducible refine x_notinS ?_ | with_reducible refine x_intI ?_ | with_reducible refine x_intB ?_ | with_reducible refine x_abs ?_ | with_reducible refine x_slL ?_ | with_reducible refine x_slT ?_ | with_reducible refine x_min2 ?_ | with_reducible refine x_max2 ?_
  | ((with_reducible refine x_is ?_ ?_); · rfl) | ((with_reducible refine x_isnot ?_ ?_); · rfl) | ((with_reducible refine x_isiD ?_ ?_ ?_); (next => rfl); (next => decide)) | ((with_reducible refine x_isiD2 ?_ ?_ ?_ ?_); (next => rfl); (next => decide); (next => decide)) | ((with_reducible refine x_name ?_ ?_); · exact of_decide_eq_true rfl) | ((with_reducible refine x_gtup ?_ ?_); · rfl))
local macro_rules | `(tactic| walk_at "d") => `(tactic| repeat (first | walk_at "e1" | walk_at "s1" | walk_at "g1" | ((with_reducible refine x_putL ?_ ?_); · rfl) | ((with_reducible refine x_szL ?_ ?_); · rfl) | dsimp only [List.set_cons_succ, List.set_cons_zero]))
local macro_rules | `(tactic| walk_at "i") => `(tactic| repeat (first | walk_at "e1" | walk_at "s1" | walk_at "g1" | ((with_reducible refine x_putL ?_ ?_); · rfl) | ((with_reducible refine x_szL ?_ ?_); · rfl) | ((with_reducible refine x_iteT2 ?_ ?_); · rfl) | ((with_reducible refine x_iteF2 ?_ ?_); · rfl) | dsimp only [List.set_cons_succ, List.set_cons_zero]))
local macro_rules | `(tactic| walk_at "g2") => `(tactic| with_reducible first | refine x_ixt0 ?_ | refine x_ixt1 ?_ | refine x_ixt2 ?_ | refine x_ixt3 ?_ | refine x_lenT ?_)
local macro_rules | `(tactic| walk_at "j") => `(tactic| repeat (first | walk_at "e1" | walk_at "s1" | walk_at "g1" | walk_at "g2" | ((with_reducible refine x_inTi ?_ ?_); · rfl) | ((with_reducible refine x_inTn ?_ ?_); · rfl) | ((with_reducible refine x_putL ?_ ?_); · rfl) | ((with_reducible refine x_szL ?_ ?_); · rfl) | ((with_reducible refine x_iteT2 ?_ ?_); · rfl) | ((with_reducible refine x_iteF2 ?_ ?_); · rfl) | dsimp only [List.set_cons_succ, List.set_cons_zero]))
def tl_19 (K : PySem.W.Frag) (cl : List (Str × Addr)) : US :=
  ((uIfS (uNot (uTru (uCall (sp_law_same K 6) [] (uCons (uGive (fun B => sp_law_all_got B (mtC errs K)) (rowsTab cl (rows_law K)) (uCons (uVar 13) uNil)) (uCons (uIf (uTest (uOp gLt (uCB gLen (uCons (uVar 8) uNil)) (uC (.int 7)))) (uVar 12) (uLst (uCons (uVar 14) (uCons (uVar 14) uNil)))) uNil))))) (uRet (uC (.bl false))) uNext))
def tl_18 (K : PySem.W.Frag) (cl : List (Str × Addr)) : US :=
  (uSeq (uSet 12 (uLstC (uCons (uTup (uCons (uC (.str "InvalidSet")) (uCons (uTup (uCons (uVar 16) uNil)) uNil))) (uCons (uTup (uCons (uC (.str "InvalidWord")) (uCons (uTup (uCons (uVar 17) uNil)) uNil))) uNil))))
    (tl_19 K cl))
def tl_17 (K : PySem.W.Frag) (cl : List (Str × Addr)) : US :=
  (uSeq (uSet 13 (uLst (uCons (uLam lam_law_2 cl) (uCons (uLam lam_law_3 cl) uNil))))
    (tl_18 K cl))
def tl_16 (K : PySem.W.Frag) (cl : List (Str × Addr)) : US :=
  (uSeq (uSet 17 (uCall (sp_law_of K) [] (uCons (uVar 1) (uCons (uLst (uCons (uC .non) (uCons (uC (.str "?")) (uCons (uC (.int 3)) (uCons (uLst (uCons (uOp gIx (uVar 3) (uC (.int 0))) uNil)) uNil))))) uNil))))
    (tl_17 K cl))
def tl_15 (K : PySem.W.Frag) (cl : List (Str × Addr)) : US :=
  (uSeq (uSet 16 (uCall (sp_law_of K) [] (uCons (uVar 1) (uCons (uLst (uCons (uTup uNil) (uCons (uC .non) (uCons (uLst (uCons (uOp gIx (uVar 8) (uC (.int 0))) uNil)) (uCons (uTup (uCons (uOp gIx (uVar 8) (uC (.int 0))) (uCons (uOp gIx (uVar 8) (uC (.int 0))) uNil))) (uCons (uTup (uCons (uOp gIx (uVar 8) (uC (.int 0))) (uCons (uUn gNeg (uC (.int 1))) uNil))) (uCons (uTup (uCons (uC (.bl true)) uNil)) (uCons (uTup (uCons (uC (.str "0")) uNil)) (uCons (uC (.int 3)) (uCons (uOp gAdd (uTup (uCons (uOp gIx (uVar 8) (uC (.int 0))) uNil)) (uTup (uCons (uVar 4) uNil))) (uCons (uOp gAdd (uCB gTupleC (uCons (uRevL (uVar 8)) uNil)) (uTup (uCons (uOp gIx (uVar 8) (uUn gNeg (uC (.int 1)))) uNil))) (uCons (uIf (uTest (uOp gNe (uVar 15) (uLst uNil))) (uTup (uCons (uOp gIx (uVar 15) (uC (.int 0))) uNil)) (uTup uNil)) uNil)))))))))))) uNil))))
    (tl_16 K cl))
def tl_14 (K : PySem.W.Frag) (cl : List (Str × Addr)) : US :=
  (uSeq (uSet 15 (uLc (uR1 (uCons (uVar 4) uNil)) [18] (uName 18) (uTest (uOp (gIn (!·)) (uVar 18) (uVar 8))) (uVar 18)))
    (tl_15 K cl))
def tl_13 (K : PySem.W.Frag) (cl : List (Str × Addr)) : US :=
  (uSeq (uIfS (uNot (uTru (uCall (sp_law_same K 6) [] (uCons (uGive (fun B => sp_law_all_got B (mtC errs K)) (rowsTab cl (rows_law K)) (uCons (uVar 13) uNil)) (uCons (uLc (uSeqI (uVar 12)) [19] (uName 19) uYes (uIf (uTest (uOp gLt (uCB gLen (uCons (uVar 8) uNil)) (uC (.int 7)))) (uTup (uCons (uC (.str "")) (uCons (uVar 19) uNil))) (uVar 14))) uNil))))) (uRet (uC (.bl false))) uNext)
    (tl_14 K cl))
def tl_12 (K : PySem.W.Frag) (cl : List (Str × Addr)) : US :=
  (uSeq (uSet 14 (uTup (uCons (uC (.str "TooMany")) (uCons (uTup (uCons (uC (.str "states")) (uCons (uC (.int 6)) uNil))) uNil))))
    (tl_13 K cl))
def tl_11 (K : PySem.W.Frag) (cl : List (Str × Addr)) : US :=
  (uSeq (uSet 13 (uLst (uCons (uLam lam_law_0 cl) (uCons (uLam lam_law_1 cl) uNil))))
    (tl_12 K cl))
def tl_10 (K : PySem.W.Frag) (cl : List (Str × Addr)) : US :=
  (uSeq (uIfS (uTest (uOp gEq (uOp gIx (uVar 12) (uC (.int 0))) (uVar 9))) (uAsg (uCB gTupleC (uCons (uVar 11) uNil)) (uGSub (uVar 12) (uC (.int 1)) gSetL)) uNext)
    (tl_11 K cl))
def tl_9 (K : PySem.W.Frag) (cl : List (Str × Addr)) : US :=
  (uSeq (uSet 12 (uLstC (uCons (uCB gTupleC (uCons (uCB gSortI (uCons (uCB (gKeys false) (uCons (uCB gDictP (uCons (uLc (uSeqI (uVar 11)) [18] (uName 18) uYes (uTup (uCons (uVar 18) (uCons (uC (.int 0)) uNil)))) uNil)) uNil)) uNil)) uNil)) (uCons (uC .non) uNil))))
    (tl_10 K cl))
def tl_8 (K : PySem.W.Frag) (cl : List (Str × Addr)) : US :=
  (uSeq (uSet 11 (uLc (uSeqI (uVar 9)) [18] (uName 18) uYes (uCall (sp_law_go K) [] (uCons (uVar 5) (uCons (uVar 3) (uCons (uVar 18) (uCons (uVar 10) uNil)))))))
    (tl_9 K cl))
def tl_7 (K : PySem.W.Frag) (cl : List (Str × Addr)) : US :=
  (uSeq (uSet 10 (uCall (sp_law_text K) [] (uCons (uVar 1) (uCons (uVar 3) (uCons (uCall (sp_law_of K) [] (uCons (uVar 1) (uCons (uLst (uCons (uC (.int 0)) (uCons (uC (.int 1)) (uCons (uC (.int 2)) (uCons (uC (.int 3)) (uCons (uCall (sp_law_pull K) [] (uCons (uVar 1) (uCons (uC (.int 21)) uNil))) uNil)))))) uNil))) uNil)))))
    (tl_8 K cl))
def tl_6 (K : PySem.W.Frag) (cl : List (Str × Addr)) : US :=
  (uSeq (uSet 9 (uIf (uTest (uOp gNe (uVar 9) (uTup uNil))) (uVar 9) (uTup (uCons (uOp gIx (uVar 8) (uC (.int 0))) uNil))))
    (tl_7 K cl))
def tl_5 (K : PySem.W.Frag) (cl : List (Str × Addr)) : US :=
  (uSeq (uSet 9 (uCB gTupleC (uCons (uLc (uSeqI (uVar 8)) [18] (uName 18) (uTest (uOp gEq (uCall (sp_law_pull K) [] (uCons (uVar 1) (uCons (uC (.int 2)) uNil))) (uC (.int 0)))) (uVar 18)) uNil)))
    (tl_6 K cl))
def tl_4 (K : PySem.W.Frag) (cl : List (Str × Addr)) : US :=
  (uSeq (uSet 8 (uCB gSortI (uCons (uLc (uSeqI (uCall (sp_law_reach K) [] (uCons (uVar 5) (uCons (uVar 3) (uCons (uVar 6) uNil))))) [18, 10] (uGTup 2 (uGCons (uName 18) (uGCons (uName 10) uGNil))) uYes (uVar 18)) uNil)))
    (tl_5 K cl))
def tl_3 (K : PySem.W.Frag) (cl : List (Str × Addr)) : US :=
  (uSeq (uSet 7 (uMakeK (He.ga K "Machine") (sp_Machine_init K) 2 1 (gAp []) (uCons (uVar 3) (uCons (uVar 5) uNil)) (uCons (uVar 6) uNil)))
    (tl_4 K cl))
def tl_2 (K : PySem.W.Frag) (cl : List (Str × Addr)) : US :=
  (uSeq (uAsg (uTup (uCons (uCall (sp_law_goals K) [] (uCons (uVar 1) (uCons (uVar 4) (uCons (uCB gLen (uCons (uVar 3) uNil)) uNil)))) (uCons (uCall (sp_law_pull K) [] (uCons (uVar 1) (uCons (uVar 4) uNil))) uNil))) (uGTup 2 (uGCons (uName 5) (uGCons (uName 6) uGNil))))
    (tl_3 K cl))
def tl_1 (K : PySem.W.Frag) (cl : List (Str × Addr)) : US :=
  (uSeq (uSet 4 (uOp gAdd (uC (.int 1)) (uCall (sp_law_pull K) [] (uCons (uVar 1) (uCons (uC (.int 8)) uNil)))))
    (tl_2 K cl))
def tl_0 (K : PySem.W.Frag) (cl : List (Str × Addr)) : US :=
  (uSeq (uSet 3 (uCall (sp_law_signs K) [] (uCons (uVar 1) uNil)))
    (tl_1 K cl))
def te_2 (K : PySem.W.Frag) (cl : List (Str × Addr)) : US :=
  ((uRet (uC (.bl true))))
def te_1 (K : PySem.W.Frag) (cl : List (Str × Addr)) : US :=
  (uSeq (uFor (uR1 (uCons (uC (.int 5)) uNil)) (uName 2) (uSeq (uSet 3 (uCall (sp_law_signs K) [] (uCons (uVar 1) uNil)))
    (uSeq (uSet 4 (uOp gAdd (uC (.int 1)) (uCall (sp_law_pull K) [] (uCons (uVar 1) (uCons (uC (.int 8)) uNil)))))
    (uSeq (uAsg (uTup (uCons (uCall (sp_law_goals K) [] (uCons (uVar 1) (uCons (uVar 4) (uCons (uCB gLen (uCons (uVar 3) uNil)) uNil)))) (uCons (uCall (sp_law_pull K) [] (uCons (uVar 1) (uCons (uVar 4) uNil))) uNil))) (uGTup 2 (uGCons (uName 5) (uGCons (uName 6) uGNil))))
    (uSeq (uSet 7 (uMakeK (He.ga K "Machine") (sp_Machine_init K) 2 1 (gAp []) (uCons (uVar 3) (uCons (uVar 5) uNil)) (uCons (uVar 6) uNil)))
    (uSeq (uSet 8 (uCB gSortI (uCons (uLc (uSeqI (uCall (sp_law_reach K) [] (uCons (uVar 5) (uCons (uVar 3) (uCons (uVar 6) uNil))))) [18, 10] (uGTup 2 (uGCons (uName 18) (uGCons (uName 10) uGNil))) uYes (uVar 18)) uNil)))
    (uSeq (uSet 9 (uCB gTupleC (uCons (uLc (uSeqI (uVar 8)) [18] (uName 18) (uTest (uOp gEq (uCall (sp_law_pull K) [] (uCons (uVar 1) (uCons (uC (.int 2)) uNil))) (uC (.int 0)))) (uVar 18)) uNil)))
    (uSeq (uSet 9 (uIf (uTest (uOp gNe (uVar 9) (uTup uNil))) (uVar 9) (uTup (uCons (uOp gIx (uVar 8) (uC (.int 0))) uNil))))
    (uSeq (uSet 10 (uCall (sp_law_text K) [] (uCons (uVar 1) (uCons (uVar 3) (uCons (uCall (sp_law_of K) [] (uCons (uVar 1) (uCons (uLst (uCons (uC (.int 0)) (uCons (uC (.int 1)) (uCons (uC (.int 2)) (uCons (uC (.int 3)) (uCons (uCall (sp_law_pull K) [] (uCons (uVar 1) (uCons (uC (.int 21)) uNil))) uNil)))))) uNil))) uNil)))))
    (uSeq (uSet 11 (uLc (uSeqI (uVar 9)) [18] (uName 18) uYes (uCall (sp_law_go K) [] (uCons (uVar 5) (uCons (uVar 3) (uCons (uVar 18) (uCons (uVar 10) uNil)))))))
    (uSeq (uSet 12 (uLstC (uCons (uCB gTupleC (uCons (uCB gSortI (uCons (uCB (gKeys false) (uCons (uCB gDictP (uCons (uLc (uSeqI (uVar 11)) [18] (uName 18) uYes (uTup (uCons (uVar 18) (uCons (uC (.int 0)) uNil)))) uNil)) uNil)) uNil)) uNil)) (uCons (uC .non) uNil))))
    (uSeq (uIfS (uTest (uOp gEq (uOp gIx (uVar 12) (uC (.int 0))) (uVar 9))) (uAsg (uCB gTupleC (uCons (uVar 11) uNil)) (uGSub (uVar 12) (uC (.int 1)) gSetL)) uNext)
    (uSeq (uSet 13 (uLst (uCons (uLam lam_law_0 cl) (uCons (uLam lam_law_1 cl) uNil))))
    (uSeq (uSet 14 (uTup (uCons (uC (.str "TooMany")) (uCons (uTup (uCons (uC (.str "states")) (uCons (uC (.int 6)) uNil))) uNil))))
    (uSeq (uIfS (uNot (uTru (uCall (sp_law_same K 6) [] (uCons (uGive (fun B => sp_law_all_got B (mtC errs K)) (rowsTab cl (rows_law K)) (uCons (uVar 13) uNil)) (uCons (uLc (uSeqI (uVar 12)) [19] (uName 19) uYes (uIf (uTest (uOp gLt (uCB gLen (uCons (uVar 8) uNil)) (uC (.int 7)))) (uTup (uCons (uC (.str "")) (uCons (uVar 19) uNil))) (uVar 14))) uNil))))) (uRet (uC (.bl false))) uNext)
    (uSeq (uSet 15 (uLc (uR1 (uCons (uVar 4) uNil)) [18] (uName 18) (uTest (uOp (gIn (!·)) (uVar 18) (uVar 8))) (uVar 18)))
    (uSeq (uSet 16 (uCall (sp_law_of K) [] (uCons (uVar 1) (uCons (uLst (uCons (uTup uNil) (uCons (uC .non) (uCons (uLst (uCons (uOp gIx (uVar 8) (uC (.int 0))) uNil)) (uCons (uTup (uCons (uOp gIx (uVar 8) (uC (.int 0))) (uCons (uOp gIx (uVar 8) (uC (.int 0))) uNil))) (uCons (uTup (uCons (uOp gIx (uVar 8) (uC (.int 0))) (uCons (uUn gNeg (uC (.int 1))) uNil))) (uCons (uTup (uCons (uC (.bl true)) uNil)) (uCons (uTup (uCons (uC (.str "0")) uNil)) (uCons (uC (.int 3)) (uCons (uOp gAdd (uTup (uCons (uOp gIx (uVar 8) (uC (.int 0))) uNil)) (uTup (uCons (uVar 4) uNil))) (uCons (uOp gAdd (uCB gTupleC (uCons (uRevL (uVar 8)) uNil)) (uTup (uCons (uOp gIx (uVar 8) (uUn gNeg (uC (.int 1)))) uNil))) (uCons (uIf (uTest (uOp gNe (uVar 15) (uLst uNil))) (uTup (uCons (uOp gIx (uVar 15) (uC (.int 0))) uNil)) (uTup uNil)) uNil)))))))))))) uNil))))
    (uSeq (uSet 17 (uCall (sp_law_of K) [] (uCons (uVar 1) (uCons (uLst (uCons (uC .non) (uCons (uC (.str "?")) (uCons (uC (.int 3)) (uCons (uLst (uCons (uOp gIx (uVar 3) (uC (.int 0))) uNil)) uNil))))) uNil))))
    (uSeq (uSet 13 (uLst (uCons (uLam lam_law_2 cl) (uCons (uLam lam_law_3 cl) uNil))))
    (uSeq (uSet 12 (uLstC (uCons (uTup (uCons (uC (.str "InvalidSet")) (uCons (uTup (uCons (uVar 16) uNil)) uNil))) (uCons (uTup (uCons (uC (.str "InvalidWord")) (uCons (uTup (uCons (uVar 17) uNil)) uNil))) uNil))))
    (uIfS (uNot (uTru (uCall (sp_law_same K 6) [] (uCons (uGive (fun B => sp_law_all_got B (mtC errs K)) (rowsTab cl (rows_law K)) (uCons (uVar 13) uNil)) (uCons (uIf (uTest (uOp gLt (uCB gLen (uCons (uVar 8) uNil)) (uC (.int 7)))) (uVar 12) (uLst (uCons (uVar 14) (uCons (uVar 14) uNil)))) uNil))))) (uRet (uC (.bl false))) uNext)))))))))))))))))))))
    (te_2 K cl))
def te_0 (K : PySem.W.Frag) (cl : List (Str × Addr)) : US :=
  (uSeq (uSet 1 (uCall (sp_law_bag K) [] (uCons (uVar 0) uNil)))
    (te_1 K cl))
/-- an error with a subject and a bound, caught -/
theorem got_tm {KF : PySem.W.Frag} {mt : Addr → Prop} {S : Store} {K : KE} {X : KX} {l : LamI} {cl : List (Str × Addr)} {z : Str} {m : Int} (hm : mt (He.ga KF "TooMany")) (k : K (.tup [.str "TooMany", .tup [.str z, .int m]]) S) : xGot mt S K X l cl (excTM KF z m) S := by
  refine got_err ⟨hm, "TooMany", .tup [.str z, .int m], rfl, rfl, (fun _ => by simp only [below, belows, and_true]), ?_⟩
  exact exit_same (by simp only [below, belows, and_true]) k
theorem same_tI {S : Store} {n : Nat} {qs : List Int} (hl : qs.length ≤ 1000000) : SameD S (n + 2) (.tup (intDs qs)) (.tup (intDs qs)) := by
  have szl : sizeLine = 16777216 := rfl
  refine .inr (.inr (.inr (.inr (.inl ⟨_, _, rfl, rfl, rfl, by rw [List.length_map]; omega, fun i a b e1 e2 => ?_⟩))))
  rw [e1] at e2
  cases e2
  obtain ⟨q, _, rfl⟩ := List.mem_map.mp (List.mem_of_getElem? e1)
  exact same_int
theorem no_ints {R : List Nat} {qs : List Int} (hl : qs.length ≤ 1000000) (h : isSetB R (.tup (intDs qs)) = false) : NoSet R (.tup (intDs qs)) := ⟨fun S => set_kind hl, h, fun S n => same_tI hl, fun n => by simp only [below]; exact ints_below _⟩
theorem set_bad {R qs : List Nat} (h : ascL qs = false ∨ ∃ q ∈ qs, q ∉ R) : isSetB R (.tup (intDs (upI qs))) = false := by
  show (decide _ && (_ && (ascL ((intDs (upI qs)).map natOf) && ((intDs (upI qs)).map natOf).all fun q => decide (q ∈ R)))) = false
  rw [natOf_up]
  rcases h with h | ⟨q, hq, hn⟩
  · rw [h, Bool.false_and, Bool.and_false, Bool.and_false]
  · rw [List.all_eq_false.mpr ⟨q, hq, by rw [decide_eq_false hn]; decide⟩, Bool.and_false, Bool.and_false, Bool.and_false]
theorem asc_rev {ns : List Nat} {x : Nat} (h : ns.getLast? = some x) : ascL (ns.reverse ++ [x]) = false := by
  cases e : ascL (ns.reverse ++ [x]) with
  | false => rfl
  | true =>
    obtain ⟨nd, _⟩ := asc_nodup e
    rw [List.nodup_append] at nd
    have hx : x ∈ ns.reverse := List.mem_reverse.mpr (List.mem_of_getLast? h)
    exact absurd rfl (nd.2.2 x hx x List.mem_cons_self)
/-- what the law knows of the machine and its reachable states -/
structure Kn (z : Str) (g : List (List Nat)) (s : Nat) (ns : List Nat) : Prop where
  al : isAlpha z = true
  ok : okRows z.length g
  st : s < g.length
  most : g.length ≤ 8
  pm : ns.Perm (reachN z g s)
  asc : ns.Pairwise (· < ·)
theorem Kn.ma {KF : PySem.W.Frag} {z : Str} {g : List (List Nat)} {s : Nat} {ns : List Nat} (k : Kn z g s ns) (S : Store) : isMa KF S (maD KF z g s) z g s := ⟨rfl, k.al, k.ok, by have := k.st; omega, by have := k.most; omega, k.st⟩
theorem Kn.bo {z : Str} {g : List (List Nat)} {s : Nat} {ns : List Nat} (k : Kn z g s ns) : BOk g.length (reachF z g s) := reach_ok rfl k.ok (start_ok k.st)
theorem Kn.lt {z : Str} {g : List (List Nat)} {s : Nat} {ns : List Nat} (k : Kn z g s ns) : ∀ q ∈ ns, q < g.length := fun q hq => by
  have := k.pm.mem_iff.mp hq
  unfold reachN at this
  obtain ⟨p, hp, rfl⟩ := List.mem_map.mp this
  exact k.bo.lt p hp
theorem Kn.len {z : Str} {g : List (List Nat)} {s : Nat} {ns : List Nat} (k : Kn z g s ns) : ns.length = (reachN z g s).length := k.pm.length_eq
theorem reach_grow {a : Str} {g : List (List Nat)} : ∀ {n i : Nat} {ps : List (Nat × Str)}, ∃ t, bfs a g n i ps = ps ++ t := by
  have row : ∀ {w : Str} {r : List (Nat × Nat)} {ps : List (Nat × Str)}, ∃ t, bfsRow w r ps = ps ++ t := by
    intro w r
    induction r with
    | nil => intro ps; exact ⟨[], by simp [bfsRow]⟩
    | cons x r ih =>
      intro ps
      obtain ⟨q, c⟩ := x
      unfold bfsRow
      by_cases e : q ∈ ps.map (·.1)
      · rw [if_pos e]; exact ih
      · rw [if_neg e]
        obtain ⟨t, h⟩ := ih (ps := ps ++ [(q, w ++ sgn c)])
        exact ⟨_, by rw [h, List.append_assoc]⟩
  intro n
  induction n with
  | zero => intro i ps; exact ⟨[], by simp [bfs]⟩
  | succ n ih =>
    intro i ps
    unfold bfs
    cases e : ps[i]? with
    | none => exact ⟨[], by simp⟩
    | some p =>
      obtain ⟨q, w⟩ := p
      obtain ⟨t, h⟩ := row (w := w) (r := (g.getD q []).zip a.cps.toList) (ps := ps)
      obtain ⟨t2, h2⟩ := ih (i := i + 1) (ps := bfsRow w ((g.getD q []).zip a.cps.toList) ps)
      exact ⟨t ++ t2, by show bfs a g n (i + 1) (bfsRow w _ ps) = _; rw [h2, h, List.append_assoc]⟩
theorem Kn.pos {z : Str} {g : List (List Nat)} {s : Nat} {ns : List Nat} (k : Kn z g s ns) : 0 < ns.length := by
  rw [k.len]
  obtain ⟨t, h⟩ := reach_grow (a := z) (g := g) (n := g.length + 1) (i := 0) (ps := [(s, "")])
  unfold reachN reachF
  rw [h]; simp
section
variable {KF : PySem.W.Frag} {cl : List (Str × Addr)} {ns' : List Int} {D : DEnds} {R : Store} {bag : Dat} {z : Str} {g : List (List Nat)} {s : Nat} {ns : List Nat} {x2 x3 x4 x5 x6 x7 x8 x9 x10 x11 x12 x13 x14 x15 x16 x17 x18 x19 : Option Dat}
abbrev wideD : Dat := .tup [.str "TooMany", .tup [.str "states", .int 6]]
theorem st_17 {od sg : Dat} {qs : List Nat} (p : Kn z g s ns) (hod : NoSet (reachN z g s) od) (hsg : NoWord z sg) (hq0 : qs ≠ []) (hqs : qs.Pairwise (· < ·)) (hqm : ∀ q ∈ qs, q ∈ ns) (hk : ∀ dl R', dl.length = 20 → dl[0]? = some (some (.sq KF ns')) → dl[1]? = some (some (.cell 0)) → D.nx dl (bag :: R')) :
    tl_17 KF cl D [some (.sq KF ns'), some (.cell 0), x2, some (.str z), x4, x5, x6, some (maD KF z g s), some (.lst (intDs (upI ns))), some (.tup (intDs (upI qs))), x10, x11, x12, x13, some wideD, x15, some od, some sg, x18, x19] (bag :: R) := by
  have szl : sizeLine = 16777216 := rfl
  have hm := p.most
  have hln := p.len
  have hset : isSetB (reachN z g s) (.tup (intDs (upI qs))) = true := set_ok hq0 hqs fun q hq => p.pm.mem_iff.mp (hqm q hq)
  have hql : qs.length ≤ g.length := nodup_lt _ _ (hqs.imp fun h => Nat.ne_of_lt h) fun q hq => p.lt q (hqm q hq)
  have hul : (upI qs).length = qs.length := by unfold upI; rw [List.length_map]
  unfold tl_17
  walk_at "j"
  unfold tl_18
  walk_at "j"
  unfold tl_19
  walk_at "j"
  refine ⟨_, rfl, (by decide : 2 ≤ sizeLine), ?_⟩
  refine ⟨lam_law_2, cl, _, rfl, lamTab_next (show (2 : Nat) ≠ 0 by decide) (lamTab_next (show (2 : Nat) ≠ 1 by decide) lamTab_here), ?_⟩
  show ul_law_2 KF [some (maD KF z g s), some od, some sg] _ _ _
  unfold ul_law_2
  walk_at "j"
  refine ⟨_, _, _, z, g, s, rfl, p.ma _, by omega, hod.kind _, ?_⟩
  by_cases h6 : 6 < (reachN z g s).length
  · refine .inl ⟨h6, got_tm ⟨"TooMany", by decide, rfl⟩ ?_⟩
    refine ⟨lam_law_3, cl, _, rfl, lamTab_next (show (3 : Nat) ≠ 0 by decide) (lamTab_next (show (3 : Nat) ≠ 1 by decide) (lamTab_next (show (3 : Nat) ≠ 2 by decide) lamTab_here)), ?_⟩
    show ul_law_3 KF [some (.int 0), some (maD KF z g s), some (.tup (intDs (upI qs))), some sg] _ _ _
    unfold ul_law_3
    walk_at "j"
    refine ⟨_, _, _, z, g, s, rfl, p.ma _, by omega, set_kind (by rw [hul]; omega), .inl ⟨h6, got_tm ⟨"TooMany", by decide, rfl⟩ ?_⟩⟩
    refine exit_same (by simp only [below, belows, and_true, true_and, List.nil_append, List.cons_append]) ?_
    walk_at "j"
    refine x_lenL (xs := intDs (upI ns)) rfl ?_
    walk_at "j"
    refine x_iteF2 (decide_eq_false (by simp only [upI, List.length_map]; omega)) ?_
    walk_at "j"
    refine ⟨_, _, rfl, ?_, ?_⟩
    · have hw : ∀ {S}, SameD S 5 wideD wideD := fun {S} => same_t2 same_str (same_t2 same_str same_int)
      exact same_ls rfl rfl (Nat.le_of_ble_eq_true rfl) (.cons hw (.cons hw .nil))
    walk_at "j"
    exact hk _ _ rfl rfl rfl
  · refine .inr (.inl ⟨by omega, hod.bad, got_exc ⟨"InvalidSet", by decide, rfl⟩ (fd_given (by decide +kernel)) hod.bel ?_⟩)
    refine ⟨lam_law_3, cl, _, rfl, lamTab_next (show (3 : Nat) ≠ 0 by decide) (lamTab_next (show (3 : Nat) ≠ 1 by decide) (lamTab_next (show (3 : Nat) ≠ 2 by decide) lamTab_here)), ?_⟩
    show ul_law_3 KF [some (.int 0), some (maD KF z g s), some (.tup (intDs (upI qs))), some sg] _ _ _
    unfold ul_law_3
    walk_at "j"
    refine ⟨_, _, _, z, g, s, rfl, p.ma _, by omega, set_kind (by rw [hul]; omega), .inr (.inr ⟨by omega, hset, qs, rfl, by omega, fun q hq => p.lt q (hqm q hq), .inl ⟨hsg.bad _, got_exc ⟨"InvalidWord", by decide, rfl⟩ (fd_given (by decide +kernel)) hsg.bel ?_⟩⟩)⟩
    refine exit_same (by simp only [below, belows, and_true, true_and, List.nil_append, List.cons_append]; exact ⟨hod.bel _, hsg.bel _⟩) ?_
    walk_at "j"
    refine x_lenL (xs := intDs (upI ns)) rfl ?_
    walk_at "j"
    refine x_iteT2 (decide_eq_true (by simp only [upI, List.length_map]; omega)) ?_
    walk_at "j"
    refine ⟨_, _, rfl, ?_, ?_⟩
    · refine same_ls rfl (ys := [.tup [.str "InvalidSet", .tup [od]], .tup [.str "InvalidWord", .tup [sg]]]) ?_ (Nat.le_of_ble_eq_true rfl) (.cons (same_pair (n := 2) (hod.same _ 1)) (.cons (same_pair (n := 2) (hsg.same _ 1)) .nil))
      simp only [lstD, view]
      simp
    walk_at "j"
    exact hk _ _ rfl rfl rfl
end
theorem shape_intsL (xs : List Int) : SeqAt.shaped (.list (xs.map PyData.int)) = true := by
  have h1 : ∀ xs : List Int, PyData.canLayAll0 (xs.map PyData.int) = true := by
    intro xs
    induction xs with
    | nil => simp [PyData.canLayAll0]
    | cons x r ih => simp [PyData.canLayAll0, PyData.canLay0] at ih ⊢; exact ih
  have h2 : ∀ xs : List Int, PyData.depthAll (xs.map PyData.int) = 0 := by
    intro xs
    induction xs with
    | nil => simp [PyData.depthAll]
    | cons x r ih => simp [PyData.depthAll, PyData.depth] at ih ⊢; exact ih
  unfold SeqAt.shaped
  rw [PyData.canLay0, h1, PyData.depth, h2]
  rfl
theorem x_neL0 {S : Store} {K : KE} {xs : List Int} (k : K (.bl (!decide (xs = []))) S) : gNe (.lst (intDs xs)) (.lst []) S K := by
  refine x_neP rfl (.lst (pys_ints xs)) (.lst .nil) (shape_intsL xs) (shape_intsL []) ?_
  rw [show PyData.eqv (.list (xs.map PyData.int)) (.list []) = decide (xs = []) by rw [PyData.eqv]; exact eqv_ints xs []]
  exact k
theorem oth_of (m : Nat) (ns : List Nat) : ∀ q ∈ (List.range m).filter (fun q => !decide (q ∈ ns)), q ∉ ns := fun q hq => by
  have := (List.mem_filter.mp hq).2
  simpa using this
theorem last_ix {ns : List Nat} {x : Nat} (h : ns.getLast? = some x) : atI (intDs (upI ns)) (-1) = some (.int (x : Int)) := by
  obtain ⟨ys, rfl⟩ : ∃ ys, ns = ys ++ [x] := List.getLast?_eq_some_iff.mp h
  have := atI_last (intDs (upI ys)) (Dat.int (x : Int))
  have e : intDs (upI (ys ++ [x])) = intDs (upI ys) ++ [Dat.int (x : Int)] := by simp [intDs, upI]
  rw [e]
  exact this
theorem up_rev (ns : List Nat) : (intDs (upI ns)).reverse = intDs (upI ns.reverse) := by
  unfold intDs upI
  rw [List.map_reverse, List.map_reverse]
section
variable {KF : PySem.W.Frag} {cl : List (Str × Addr)} {ns' : List Int} {D : DEnds} {R : Store} {bag : Dat} {z : Str} {g : List (List Nat)} {s : Nat} {ns : List Nat} {x2 x3 x4 x5 x6 x7 x8 x9 x10 x11 x12 x13 x14 x15 x16 x17 x18 x19 : Option Dat}
theorem st_14 {qs : List Nat} (p : Kn z g s ns) (hB : IsBag bag) (hq0 : qs ≠ []) (hqs : qs.Pairwise (· < ·)) (hqm : ∀ q ∈ qs, q ∈ ns) (hk : ∀ dl bag' R', IsBag bag' → dl.length = 20 → dl[0]? = some (some (.sq KF ns')) → dl[1]? = some (some (.cell 0)) → D.nx dl (bag' :: R')) :
    tl_14 KF cl D [some (.sq KF ns'), some (.cell 0), x2, some (.str z), some (natD g.length), x5, x6, some (maD KF z g s), some (.lst (intDs (upI ns))), some (.tup (intDs (upI qs))), x10, x11, x12, x13, some wideD, x15, x16, x17, x18, x19] (bag :: R) := by
  have szl : sizeLine = 16777216 := rfl
  obtain ⟨hz4, hz0, _⟩ := alpha_len p.al
  have hzl := cps_len z
  have hm := p.most
  have hpos := p.pos
  have hst := p.st
  obtain ⟨c, hc⟩ : ∃ c, z.cps.toList[0]? = some c := ⟨_, List.getElem?_eq_getElem (by omega)⟩
  have hc0 : atI z.cps.toList 0 = some c := atI_nat' hc
  obtain ⟨f0, hf0⟩ : ∃ f, ns[0]? = some f := ⟨_, List.getElem?_eq_getElem hpos⟩
  have hf0d : (intDs (upI ns))[0]? = some (.int (f0 : Int)) := by simp [intDs, upI, hf0]
  have hf0a : atI (intDs (upI ns)) 0 = some (.int (f0 : Int)) := atI_nat' hf0d
  obtain ⟨la, hla⟩ : ∃ x, ns.getLast? = some x := by
    cases e : ns.getLast? with
    | none => rw [List.getLast?_eq_none_iff] at e; rw [e] at hpos; simp at hpos
    | some x => exact ⟨x, rfl⟩
  have hsub : ∀ q, q ∉ ns → q ∉ reachN z g s := fun q h h2 => h (p.pm.mem_iff.mpr h2)
  unfold tl_14
  walk_at "j"
  refine ⟨⟨by omega, by omega⟩, ?_⟩
  rw [show ((g.length : Nat) : Int).toNat = g.length by omega, rangeD0]
  refine lc_T (List.range g.length) (fun (i : Nat) => Dat.int (i : Int)) (p := fun q => !decide (q ∈ ns)) (f := fun q => natD q) trivial (by rw [List.length_range]; omega) (fun q hq Kt Kf h1 h2 => ?_) ?_
  · dsimp only [wipeD, List.set_cons_succ, List.set_cons_zero]
    walk_at "j"
    refine ⟨_, _, rfl, inF_ints _ _, ?_⟩
    have : decide ((q : Int) ∈ upI ns) = decide (q ∈ ns) := up_mem (List.Perm.refl _) q
    rw [this]
    walk_at "j"
    cases e : decide (q ∈ ns) with
    | true => exact h2 (by rw [e]; rfl)
    | false =>
      have := h1 (by rw [e]; rfl)
      walk_at "j"
      exact this
  generalize hoth : (List.range g.length).filter (fun q => !decide (q ∈ ns)) = oth
  have hno : ∀ q ∈ oth, q ∉ ns := by rw [← hoth]; exact oth_of _ _
  rw [show oth.map (fun q => natD q) = intDs (upI oth) by unfold intDs upI; rw [List.map_map]; rfl]
  walk_at "j"
  unfold tl_15
  walk_at "j"
  refine x_ixL (xs := intDs (upI ns)) rfl hf0a ?_
  walk_at "j"
  refine x_ixL (xs := intDs (upI ns)) rfl hf0a ?_
  walk_at "j"
  refine x_ixL (xs := intDs (upI ns)) rfl hf0a ?_
  walk_at "j"
  refine x_ixL (xs := intDs (upI ns)) rfl hf0a ?_
  walk_at "j"
  refine x_ixL (xs := intDs (upI ns)) rfl hf0a ?_
  walk_at "j"
  refine x_addT (Nat.le_of_ble_eq_true rfl) ?_
  walk_at "j"
  refine ⟨_, rfl, ?_⟩
  walk_at "j"
  refine x_tuple (xs := (intDs (upI ns)).reverse) rfl ?_
  walk_at "j"
  refine x_ixL (xs := intDs (upI ns)) rfl (last_ix hla) ?_
  walk_at "j"
  have hnl : ns.length ≤ 8 := by
    have := nodup_lt _ _ (p.asc.imp fun h => Nat.ne_of_lt h) p.lt
    omega
  refine x_addT (by simp only [List.length_reverse, upI, List.length_map, List.length_singleton]; omega) ?_
  walk_at "j"
  refine x_neL0 ?_
  have nex : ∀ {w : Dat}, NoSet (reachN z g s) w → True := fun _ => trivial
  have cands : ∀ (w : Dat) (i : Nat) (od : Dat), NoSet (reachN z g s) w → ([Dat.tup [], .non, .lst [.int (f0 : Int)], .tup [.int (f0 : Int), .int (f0 : Int)], .tup [.int (f0 : Int), .int (-1)], .tup [.bl true], .tup [.str "0"], .int 3, .tup ([.int (f0 : Int)] ++ [natD g.length]), .tup ((intDs (upI ns)).reverse ++ [.int (la : Int)]), w] : List Dat)[i]? = some od → NoSet (reachN z g s) od := by
    intro w i od hw hv
    match i, hv with
    | 0, h => cases h; exact no_ints (qs := []) (by decide) rfl
    | 1, h => cases h; exact ⟨fun S => ⟨⟨"NoneType", rfl, by decide⟩, fun xs e => by cases e⟩, rfl, fun S n => same_non, fun n => by simp only [below]⟩
    | 2, h => cases h; exact ⟨fun S => ⟨⟨"list", rfl, by decide⟩, fun xs e => by cases e⟩, rfl, fun S n => same_l1 same_int, fun n => by simp only [below, belows, and_true]⟩
    | 3, h => cases h; exact no_ints (qs := upI [f0, f0]) (Nat.le_of_ble_eq_true rfl) (set_bad (.inl (by simp [ascL])))
    | 4, h => cases h; exact no_ints (qs := [(f0 : Int), -1]) (Nat.le_of_ble_eq_true rfl) (by
        simp only [isSetB, show (intDs [(f0 : Int), -1]).all geB = false by simp [intDs, geB], Bool.false_and, Bool.and_false])
    | 5, h => cases h; exact ⟨fun S => ⟨⟨"tuple", rfl, by decide⟩, fun xs e => by cases e; exact ⟨by decide, fun x hx => by rw [List.mem_singleton.mp hx]; exact ⟨"bool", rfl, by decide⟩⟩⟩, rfl, fun S n => same_t1 same_bl, fun n => by simp only [below, belows, and_true]⟩
    | 6, h => cases h; exact ⟨fun S => ⟨⟨"tuple", rfl, by decide⟩, fun xs e => by cases e; exact ⟨Nat.le_of_ble_eq_true rfl, fun x hx => by rw [List.mem_singleton.mp hx]; exact ⟨"str", rfl, by decide⟩⟩⟩, rfl, fun S n => same_t1 same_str, fun n => by simp only [below, belows, and_true]⟩
    | 7, h => cases h; exact ⟨fun S => ⟨⟨"int", rfl, by decide⟩, fun xs e => by cases e⟩, rfl, fun S n => same_int, fun n => by simp only [below]⟩
    | 8, h => cases h; exact no_ints (qs := upI [f0, g.length]) (Nat.le_of_ble_eq_true rfl) (set_bad (.inr ⟨g.length, by simp, fun h => by
        have := p.lt _ (p.pm.mem_iff.mpr h)
        omega⟩))
    | 9, h =>
      cases h
      rw [up_rev, show (intDs (upI ns.reverse) ++ [.int (la : Int)] : List Dat) = intDs (upI (ns.reverse ++ [la])) by simp [intDs, upI]]
      exact no_ints (by simp only [upI, List.length_map, List.length_append, List.length_reverse, List.length_singleton]; omega) (set_bad (.inl (asc_rev hla)))
    | 10, h => cases h; exact hw
    | n + 11, h => cases h
  have after : ∀ (od bag1 : Dat), NoSet (reachN z g s) od → IsBag bag1 → tl_16 KF cl D [some (.sq KF ns'), some (.cell 0), x2, some (.str z), some (natD g.length), x5, x6, some (maD KF z g s), some (.lst (intDs (upI ns))), some (.tup (intDs (upI qs))), x10, x11, x12, x13, some wideD, some (.lst (intDs (upI oth))), some od, x17, x18, x19] (bag1 :: R) := by
    intro od bag1 hod hB1
    unfold tl_16
    walk_at "j"
    refine x_ixS (by omega) hc0 ?_
    walk_at "j"
    refine of_lst (Nat.le_of_ble_eq_true rfl) (Nat.le_of_ble_eq_true rfl) rfl hB1 (fun i sg bag2 hv hB2 => ?_)
    dsimp only [List.set_cons_zero]
    have hsg : NoWord z sg := by
      match i, hv with
      | 0, h => cases h; exact no_non
      | 1, h => cases h; exact no_sign (q := 63) p.al (by decide) (by decide +kernel) (by decide +kernel)
      | 2, h => cases h; exact no_int
      | 3, h => cases h; exact no_lst
      | n + 4, h => cases h
    walk_at "j"
    exact st_17 p hod hsg hq0 hqs hqm (fun dl R' h1 h2 h3 => hk dl _ _ hB2 h1 h2 h3)
  have next : ∀ (w : Dat) {Kt : KE} {X : KX}, NoSet (reachN z g s) w → (∀ od bag1, NoSet (reachN z g s) od → IsBag bag1 → Kt od (bag1 :: R)) → sp_law_of KF ([.cell 0, .lst [Dat.tup [], .non, .lst [.int (f0 : Int)], .tup [.int (f0 : Int), .int (f0 : Int)], .tup [.int (f0 : Int), .int (-1)], .tup [.bl true], .tup [.str "0"], .int 3, .tup ([.int (f0 : Int)] ++ [natD g.length]), .tup ((intDs (upI ns)).reverse ++ [.int (la : Int)]), w]] ++ []) (bag :: R) Kt X := by
    intro w Kt X hw hk2
    exact of_lst (Nat.le_of_ble_eq_true rfl) (Nat.le_of_ble_eq_true rfl) rfl hB (fun i od bag1 hv hB1 => hk2 _ _ (cands w i od hw hv) hB1)
  refine x_ite (fun e => ?_) (fun e => ?_)
  · have he : oth ≠ [] := fun z => by rw [z] at e; exact absurd e (by decide)
    obtain ⟨o0, ho0⟩ : ∃ f, oth[0]? = some f := ⟨_, List.getElem?_eq_getElem (List.length_pos_iff.mpr he)⟩
    have ho0a : atI (intDs (upI oth)) 0 = some (.int (o0 : Int)) := atI_nat' (by simp [intDs, upI, ho0])
    walk_at "j"
    refine x_ixL (xs := intDs (upI oth)) rfl ho0a ?_
    walk_at "j"
    exact next _ (no_ints (qs := upI [o0]) (Nat.le_of_ble_eq_true rfl) (set_bad (.inr ⟨o0, by simp, hsub _ (hno _ (List.mem_of_getElem? ho0))⟩))) (fun od bag1 hod hB1 => by
      walk_at "j"
      exact after od bag1 hod hB1)
  · walk_at "j"
    exact next _ (no_ints (qs := []) (by decide) rfl) (fun od bag1 hod hB1 => by
      walk_at "j"
      exact after od bag1 hod hB1)
end
section
variable {KF : PySem.W.Frag} {cl : List (Str × Addr)} {ns' : List Int} {D : DEnds} {R : Store} {bag : Dat} {z : Str} {g : List (List Nat)} {s : Nat} {ns : List Nat} {x2 x3 x4 x5 x6 x7 x8 x9 x10 x11 x12 x13 x14 x15 x16 x17 x18 x19 : Option Dat}
theorem st_11 {qs : List Nat} {zs : List Int} {t : Str} {c : Nat} (p : Kn z g s ns) (hB : IsBag bag) (hq0 : qs ≠ []) (hqs : qs.Pairwise (· < ·)) (hqm : ∀ q ∈ qs, q ∈ ns) (ht : t.length ≤ 1000000) (hw : isWord z t = true)
    (hz : zs.Pairwise (· < ·)) (hzm : ∀ k, k ∈ zs ↔ k ∈ ledI z g qs t) (hc : (bag :: R)[c]? = some (.lst [.tup (intDs zs), if zs = upI qs then .tup (intDs (ledI z g qs t)) else .non]))
    (hk : ∀ dl bag' R', IsBag bag' → dl.length = 20 → dl[0]? = some (some (.sq KF ns')) → dl[1]? = some (some (.cell 0)) → D.nx dl (bag' :: R')) :
    tl_11 KF cl D [some (.sq KF ns'), some (.cell 0), x2, some (.str z), some (natD g.length), x5, x6, some (maD KF z g s), some (.lst (intDs (upI ns))), some (.tup (intDs (upI qs))), some (.str t), x11, some (.cell c), x13, x14, x15, x16, x17, x18, x19] (bag :: R) := by
  have szl : sizeLine = 16777216 := rfl
  have hm := p.most
  have hln := p.len
  have hset : isSetB (reachN z g s) (.tup (intDs (upI qs))) = true := set_ok hq0 hqs fun q hq => p.pm.mem_iff.mp (hqm q hq)
  have hql : qs.length ≤ g.length := nodup_lt _ _ (hqs.imp fun h => Nat.ne_of_lt h) fun q hq => p.lt q (hqm q hq)
  have hul : (upI qs).length = qs.length := by unfold upI; rw [List.length_map]
  have hll : (ledI z g qs t).length = qs.length := by unfold ledI; rw [List.length_map]
  have huq : (upI qs).Pairwise (· < ·) := List.Pairwise.map _ (fun a b h => by omega) hqs
  have hzl : zs.length ≤ 8 := by
    have : zs.Nodup := hz.imp fun h => Int.ne_of_lt h
    have hsub : ∀ x ∈ zs, x ∈ ledI z g qs t := fun x hx => (hzm x).mp hx
    by_cases e : (ledI z g qs t).length ≤ zs.length
    · have := (nodup_perm this hsub e).length_eq; omega
    · omega
  have hseq : seqD (bag :: R) (.cell c) = some [.tup (intDs zs), if zs = upI qs then .tup (intDs (ledI z g qs t)) else .non] := by simp only [seqD, hc]
  unfold tl_11
  walk_at "j"
  unfold tl_12
  walk_at "j"
  unfold tl_13
  walk_at "j"
  refine ⟨_, rfl, (by decide : 2 ≤ sizeLine), ?_⟩
  refine ⟨lam_law_0, cl, _, rfl, lamTab_here, ?_⟩
  show ul_law_0 KF [some (maD KF z g s), some (.tup (intDs (upI qs))), some (.str t)] _ _ _
  unfold ul_law_0
  walk_at "j"
  refine ⟨_, _, _, z, g, s, rfl, p.ma _, by omega, set_kind (by rw [hul]; omega), ?_⟩
  by_cases h6 : 6 < (reachN z g s).length
  · refine .inl ⟨h6, got_tm ⟨"TooMany", by decide, rfl⟩ ?_⟩
    refine ⟨lam_law_1, cl, _, rfl, lamTab_next (show (1 : Nat) ≠ 0 by decide) lamTab_here, ?_⟩
    show ul_law_1 KF [some (.int 0), some (maD KF z g s), some (.tup (intDs (upI qs))), some (.str t)] _ _ _
    unfold ul_law_1
    walk_at "j"
    refine ⟨_, _, _, z, g, s, rfl, p.ma _, by omega, set_kind (by rw [hul]; omega), .inl ⟨h6, got_tm ⟨"TooMany", by decide, rfl⟩ ?_⟩⟩
    refine exit_same (by simp only [below, belows, and_true, true_and, List.nil_append, List.cons_append]) ?_
    walk_at "j"
    refine ⟨_, seq_draw hseq, ?_⟩
    refine lc_I _ (f := fun _ => wideD) (seq_draw hseq) (Nat.le_of_ble_eq_true rfl) (fun a ha Kt Kf hk2 => ?_) ?_
    · dsimp only [wipeD, List.set_cons_succ, List.set_cons_zero]
      walk_at "j"
      refine x_lenL (xs := intDs (upI ns)) rfl ?_
      walk_at "j"
      refine x_iteF2 (decide_eq_false (by simp only [upI, List.length_map]; omega)) ?_
      walk_at "j"
      exact hk2
    walk_at "j"
    refine ⟨_, _, rfl, ?_, ?_⟩
    · have hw : ∀ {S}, SameD S 5 wideD wideD := fun {S} => same_t2 same_str (same_t2 same_str same_int)
      exact same_ls rfl rfl (Nat.le_of_ble_eq_true rfl) (.cons hw (.cons hw .nil))
    walk_at "j"
    exact st_14 p hB hq0 hqs hqm hk
  · refine .inr (.inr ⟨by omega, hset, qs, rfl, by omega, fun q hq => p.lt q (hqm q hq), .inr ⟨t, rfl, ht, hw, fun ys hys hym => ?_⟩⟩)
    obtain rfl : ys = zs := lt_eq hys hz fun k => (hym k).trans (hzm k).symm
    refine got_ok (exit_same (by simp only [below, belows, and_true, true_and]; exact ints_below _) ?_)
    refine ⟨lam_law_1, cl, _, rfl, lamTab_next (show (1 : Nat) ≠ 0 by decide) lamTab_here, ?_⟩
    show ul_law_1 KF [some (.int 0), some (maD KF z g s), some (.tup (intDs (upI qs))), some (.str t)] _ _ _
    unfold ul_law_1
    walk_at "j"
    refine ⟨_, _, _, z, g, s, rfl, p.ma _, by omega, set_kind (by rw [hul]; omega), .inr (.inr ⟨by omega, hset, qs, rfl, by omega, fun q hq => p.lt q (hqm q hq), .inr ⟨t, rfl, ht, hw, fun ws hws hwp => ?_⟩⟩)⟩
    have hte := turn_eq hws hwp hz hzm huq (by rw [hul, hll])
    rw [show (if ws = upI qs then Dat.tup (intDs (ledI z g qs t)) else .non) = (if ys = upI qs then Dat.tup (intDs (ledI z g qs t)) else .non) by simp only [hte]]
    generalize hd1 : (if ys = upI qs then Dat.tup (intDs (ledI z g qs t)) else .non) = d1 at *
    have hd : (∀ S, SameD S 4 d1 d1) ∧ ∀ n, below n d1 := by
      rw [← hd1]
      split
      · exact ⟨fun S => same_tI (by omega), fun n => by simp only [below]; exact ints_below _⟩
      · exact ⟨fun S => same_non, fun n => by simp only [below]⟩
    refine got_ok (exit_same (by simp only [below, belows, and_true, true_and]; exact hd.2 _) ?_)
    refine exit_same (by simp only [below, belows, and_true, true_and, List.nil_append, List.cons_append]; exact ⟨ints_below _, hd.2 _⟩) ?_
    walk_at "j"
    refine ⟨_, seq_draw hseq, ?_⟩
    refine lc_I _ (f := fun x => .tup [.str "", x]) (seq_draw hseq) (Nat.le_of_ble_eq_true rfl) (fun a ha Kt Kf hk2 => ?_) ?_
    · dsimp only [wipeD, List.set_cons_succ, List.set_cons_zero]
      walk_at "j"
      refine x_lenL (xs := intDs (upI ns)) rfl ?_
      walk_at "j"
      refine x_iteT2 (decide_eq_true (by simp only [upI, List.length_map]; omega)) ?_
      walk_at "j"
      exact hk2
    walk_at "j"
    refine ⟨_, _, rfl, ?_, ?_⟩
    · exact same_ls rfl rfl (Nat.le_of_ble_eq_true rfl) (.cons (same_t2 same_str (same_tI (n := 2) (by omega))) (.cons (same_t2 same_str (hd.1 _)) .nil))
    walk_at "j"
    exact st_14 p hB hq0 hqs hqm hk
end
theorem up_back {ys : List Int} {R : List Nat} (h : ys.Perm (upI R)) : ∃ ns : List Nat, ys = upI ns ∧ ns.Perm R := by
  have hid : (upI R).map Int.toNat = R := by
    unfold upI
    rw [List.map_map]
    conv => rhs; rw [← List.map_id R]
    exact List.map_congr_left fun q _ => Int.toNat_natCast q
  refine ⟨ys.map Int.toNat, ?_, by have := h.map Int.toNat; rwa [hid] at this⟩
  unfold upI
  rw [List.map_map]
  conv => lhs; rw [← List.map_id ys]
  refine List.map_congr_left fun y hy => ?_
  have := h.mem_iff.mp hy
  unfold upI at this
  obtain ⟨q, _, rfl⟩ := List.mem_map.mp this
  rfl
theorem up_lt {ns : List Nat} (h : (upI ns).Pairwise (· ≤ ·)) (nd : ns.Nodup) : ns.Pairwise (· < ·) := by
  unfold upI at h
  rw [List.pairwise_map] at h
  exact (h.and nd).imp fun ⟨a, b⟩ => by omega
section
variable {KF : PySem.W.Frag} {cl : List (Str × Addr)} {ns' : List Int} {D : DEnds} {R : Store} {bag : Dat} {z : Str} {g : List (List Nat)} {s : Nat} {ns : List Nat} {x2 x3 x4 x5 x6 x7 x8 x9 x10 x11 x12 x13 x14 x15 x16 x17 x18 x19 : Option Dat}
theorem st_8 {qs : List Nat} {t : Str} (p : Kn z g s ns) (hB : IsBag bag) (hq0 : qs ≠ []) (hqs : qs.Pairwise (· < ·)) (hqm : ∀ q ∈ qs, q ∈ ns) (ht : t.length ≤ 1000000) (hw : isWord z t = true)
    (hk : ∀ dl bag' R', IsBag bag' → dl.length = 20 → dl[0]? = some (some (.sq KF ns')) → dl[1]? = some (some (.cell 0)) → D.nx dl (bag' :: R')) :
    tl_8 KF cl D [some (.sq KF ns'), some (.cell 0), x2, some (.str z), some (natD g.length), some (.lst (g.map encRow)), x6, some (maD KF z g s), some (.lst (intDs (upI ns))), some (.tup (intDs (upI qs))), some (.str t), x11, x12, x13, x14, x15, x16, x17, x18, x19] (bag :: R) := by
  have szl : sizeLine = 16777216 := rfl
  obtain ⟨hz4, hz0, _⟩ := alpha_len p.al
  have hm := p.most
  have hql : qs.length ≤ g.length := nodup_lt _ _ (hqs.imp fun h => Nat.ne_of_lt h) fun q hq => p.lt q (hqm q hq)
  have hll : (ledI z g qs t).length = qs.length := by unfold ledI; rw [List.length_map]
  unfold tl_8
  walk_at "j"
  refine ⟨_, rfl, ?_⟩
  rw [show intDs (upI qs) = qs.map (fun (n : Nat) => natD n) by unfold intDs upI; rw [List.map_map]; rfl]
  refine lc_M qs (fun (n : Nat) => natD n) (f := fun q => natD (ledF z g q t.cps.toList)) rfl (by omega) (fun q hq2 Kt Kf hk => ?_) ?_
  · dsimp only [wipeD, List.set_cons_succ, List.set_cons_zero]
    walk_at "j"
    exact ⟨z, t, g, q, rfl, p.ok, p.lt q (hqm q hq2), hw, by omega, ht, hk⟩
  rw [← show intDs (upI qs) = qs.map (fun (n : Nat) => natD n) by unfold intDs upI; rw [List.map_map]; rfl]
  rw [show (qs.map fun q => natD (ledF z g q t.cps.toList)) = intDs (ledI z g qs t) by unfold intDs ledI; rw [List.map_map]; rfl]
  walk_at "j"
  unfold tl_9
  walk_at "j"
  refine ⟨_, rfl, ?_⟩
  refine lc_M (ledI z g qs t) Dat.int (f := fun i => .tup [.int i, .int 0]) rfl (by omega) (fun q hq2 Kt Kf hk => ?_) ?_
  · dsimp only [wipeD, List.set_cons_succ, List.set_cons_zero]
    walk_at "j"
    exact hk
  walk_at "j"
  refine ⟨(ledI z g qs t).map fun q => ((.inl q : Key), .int 0), by rw [List.map_map]; rfl, ?_⟩
  obtain ⟨ks, hks, hnd, hmem⟩ := merge_ints (ledI z g qs t) (.int 0)
  walk_at "j"
  refine ⟨mergeD [] ((ledI z g qs t).map fun q => ((.inl q : Key), .int 0)), by simp only [view, st1a], ?_⟩
  walk_at "j"
  refine ⟨ks, ?_, fun zs hzp hzs => ?_⟩
  · rw [show ((mergeD [] ((ledI z g qs t).map fun q => ((.inl q : Key), Dat.int 0))).map fun p => keyD p.1) = intDs ks by
      have := congrArg (List.map keyD) hks
      rw [List.map_map, List.map_map] at this
      exact this]
    rfl
  have hzn : zs.Nodup := hzp.nodup_iff.mpr hnd
  have hzlt := lt_of_le hzs hzn
  have hzm : ∀ k, k ∈ zs ↔ k ∈ ledI z g qs t := fun k => hzp.mem_iff.trans (hmem k)
  walk_at "j"
  refine x_tuple (xs := intDs zs) rfl ?_
  walk_at "j"
  generalize hR2 : (R ++ [dctD (mergeD [] ((ledI z g qs t).map fun q => ((.inl q : Key), Dat.int 0)))] : Store) = R2
  have e2 : (bag :: R ++ [dctD (mergeD [] ((ledI z g qs t).map fun q => ((.inl q : Key), Dat.int 0)))] : Store) = bag :: R2 := by rw [← hR2]; rfl
  rw [e2]
  unfold tl_10
  walk_at "j"
  have hcell : (bag :: R2 ++ [.lst [.tup (intDs zs), .non]])[(bag :: R2).length]? = some (Dat.lst [.tup (intDs zs), .non]) := st1a
  refine x_ixL (xs := [.tup (intDs zs), .non]) (d := .tup (intDs zs)) (by simp only [seqD, hcell]) rfl ?_
  walk_at "j"
  refine x_eqTI ?_
  have fin : ∀ d1, d1 = (if zs = upI qs then Dat.tup (intDs (ledI z g qs t)) else .non) → tl_11 KF cl D [some (.sq KF ns'), some (.cell 0), x2, some (.str z), some (natD g.length), some (.lst (g.map encRow)), x6, some (maD KF z g s), some (.lst (intDs (upI ns))), some (.tup (intDs (upI qs))), some (.str t), some (.lst (intDs (ledI z g qs t))), some (.cell (bag :: R2).length), x13, x14, x15, x16, x17, x18, x19] (bag :: (R2 ++ [.lst [.tup (intDs zs), d1]])) := fun d1 hd1 =>
    st_11 (c := (bag :: R2).length) p hB hq0 hqs hqm ht hw hzlt hzm (by rw [← hd1]; exact st1a (S := bag :: R2)) hk
  refine x_ite (fun e => ?_) (fun e => ?_)
  · have e := of_decide_eq_true e
    walk_at "j"
    refine x_tuple (xs := intDs (ledI z g qs t)) rfl ?_
    walk_at "j"
    refine x_setL (j := 1) hcell rfl ?_
    rw [st1sa]
    walk_at "j"
    exact fin _ (by rw [if_pos e])
  · have e := of_decide_eq_false e
    walk_at "j"
    exact fin _ (by rw [if_neg e])
end
section
variable {KF : PySem.W.Frag} {cl : List (Str × Addr)} {ns' : List Int} {D : DEnds} {R : Store} {bag : Dat} {z : Str} {g : List (List Nat)} {s : Nat} {ns : List Nat} {x2 x3 x4 x5 x6 x7 x8 x9 x10 x11 x12 x13 x14 x15 x16 x17 x18 x19 : Option Dat}
theorem st_7 {qs : List Nat} (p : Kn z g s ns) (hB : IsBag bag) (hq0 : qs ≠ []) (hqs : qs.Pairwise (· < ·)) (hqm : ∀ q ∈ qs, q ∈ ns)
    (hk : ∀ dl bag' R', IsBag bag' → dl.length = 20 → dl[0]? = some (some (.sq KF ns')) → dl[1]? = some (some (.cell 0)) → D.nx dl (bag' :: R')) :
    tl_7 KF cl D [some (.sq KF ns'), some (.cell 0), x2, some (.str z), some (natD g.length), some (.lst (g.map encRow)), x6, some (maD KF z g s), some (.lst (intDs (upI ns))), some (.tup (intDs (upI qs))), x10, x11, x12, x13, x14, x15, x16, x17, x18, x19] (bag :: R) := by
  have szl : sizeLine = 16777216 := rfl
  obtain ⟨hz4, hz0, _⟩ := alpha_len p.al
  unfold tl_7
  walk_at "j"
  refine pull0 (by decide) (by decide) hB (fun m bag3 hm hB3 => ?_)
  walk_at "j"
  refine of_lst (Nat.le_of_ble_eq_true rfl) (Nat.le_of_ble_eq_true rfl) rfl hB3 (fun i2 v bag4 hv hB4 => ?_)
  obtain ⟨n, rfl, hn⟩ : ∃ n : Nat, v = natD n ∧ n ≤ 41 := by
    match i2, hv with
    | 0, hx => exact ⟨0, (Option.some.inj hx).symm, by omega⟩
    | 1, hx => exact ⟨1, (Option.some.inj hx).symm, by omega⟩
    | 2, hx => exact ⟨2, (Option.some.inj hx).symm, by omega⟩
    | 3, hx => exact ⟨3, (Option.some.inj hx).symm, by omega⟩
    | 4, hx => exact ⟨m, (Option.some.inj hx).symm, by omega⟩
    | n + 5, hx => cases hx
  dsimp only [List.set_cons_zero]
  walk_at "j"
  refine ⟨0, bag4, z, n, rfl, by omega, hz0, by omega, rfl, hB4, fun t bag5 ht htw hB5 => ?_⟩
  dsimp only [List.set_cons_zero]
  walk_at "j"
  exact st_8 p hB5 hq0 hqs hqm (by omega) htw hk
theorem st_5 (p : Kn z g s ns) (hB : IsBag bag)
    (hk : ∀ dl bag' R', IsBag bag' → dl.length = 20 → dl[0]? = some (some (.sq KF ns')) → dl[1]? = some (some (.cell 0)) → D.nx dl (bag' :: R')) :
    tl_5 KF cl D [some (.sq KF ns'), some (.cell 0), x2, some (.str z), some (natD g.length), some (.lst (g.map encRow)), x6, some (maD KF z g s), some (.lst (intDs (upI ns))), x9, x10, x11, x12, x13, x14, x15, x16, x17, x18, x19] (bag :: R) := by
  have szl : sizeLine = 16777216 := rfl
  have hm := p.most
  have hpos := p.pos
  have hnl : ns.length ≤ 8 := by
    have := nodup_lt _ _ (p.asc.imp fun h => Nat.ne_of_lt h) p.lt
    omega
  obtain ⟨f0, hf0⟩ : ∃ f, ns[0]? = some f := ⟨_, List.getElem?_eq_getElem hpos⟩
  have hf0a : atI (intDs (upI ns)) 0 = some (.int (f0 : Int)) := atI_nat' (by simp [intDs, upI, hf0])
  have hnD : intDs (upI ns) = ns.map (fun (n : Nat) => natD n) := by unfold intDs upI; rw [List.map_map]; rfl
  unfold tl_5
  walk_at "j"
  refine ⟨_, rfl, ?_⟩
  rw [hnD]
  refine lc_S ns _ (fun pre acc S2 => ∃ (qs : List Nat) (bag' : Dat), acc = qs.map (fun (n : Nat) => natD n) ∧ qs.Sublist pre ∧ IsBag bag' ∧ S2 = bag' :: R) ?_ ?_ ?_ ?_ ?_
  · omega
  · exact ⟨[], bag, rfl, List.Sublist.refl _, hB, rfl⟩
  · rintro pre acc S2 ⟨qs, bag', rfl, hs, _, rfl⟩
    exact ⟨rfl, by rw [List.length_map]; exact hs.length_le⟩
  · rintro pre q rest acc S2 hx ⟨qs, bag', rfl, hs, hB', rfl⟩
    dsimp only [wipeD, List.set_cons_succ, List.set_cons_zero]
    walk_at "j"
    refine pull0 (by decide) (by decide) hB' (fun m bag2 hm2 hB2 => ?_)
    walk_at "j"
    refine x_ite (fun e => ?_) (fun e => ?_)
    · walk_at "j"
      exact ⟨qs ++ [q], bag2, by rw [List.map_append]; rfl, hs.append (List.Sublist.refl _), hB2, rfl⟩
    · exact ⟨qs, bag2, rfl, hs.trans (List.sublist_append_left _ _), hB2, rfl⟩
  · rintro acc S2 ⟨qs, bag', rfl, hs, hB', rfl⟩
    rw [← hnD]
    have hqD : intDs (upI qs) = qs.map (fun (n : Nat) => natD n) := by unfold intDs upI; rw [List.map_map]; rfl
    walk_at "j"
    refine x_tuple (xs := intDs (upI qs)) (by rw [hqD]; rfl) ?_
    walk_at "j"
    unfold tl_6
    walk_at "j"
    refine x_neTI (ys := []) ?_
    refine x_ite (fun e => ?_) (fun e => ?_)
    · have hq0 : qs ≠ [] := fun h => by rw [h] at e; exact absurd e (by decide)
      walk_at "j"
      exact st_7 p hB' hq0 (p.asc.sublist hs) (fun q hq => hs.subset hq) hk
    · walk_at "j"
      refine x_ixL (xs := intDs (upI ns)) rfl hf0a ?_
      walk_at "j"
      exact st_7 (qs := [f0]) p hB' (by simp) (by simp) (fun q hq => by rw [List.mem_singleton.mp hq]; exact List.mem_of_getElem? hf0) hk
theorem st_0 (hB : IsBag bag) (hk : ∀ dl bag' R', IsBag bag' → dl.length = 20 → dl[0]? = some (some (.sq KF ns')) → dl[1]? = some (some (.cell 0)) → D.nx dl (bag' :: R')) :
    tl_0 KF cl D [some (.sq KF ns'), some (.cell 0), x2, x3, x4, x5, x6, x7, x8, x9, x10, x11, x12, x13, x14, x15, x16, x17, x18, x19] (bag :: R) := by
  have szl : sizeLine = 16777216 := rfl
  unfold tl_0
  walk_at "j"
  refine ⟨0, bag, rfl, rfl, hB, fun z bag1 hz hB1 => ?_⟩
  obtain ⟨hz4, hz0, hza⟩ := alpha_len hz
  dsimp only [List.set_cons_zero]
  walk_at "j"
  unfold tl_1
  walk_at "j"
  refine pull0 (by decide) (by decide) hB1 (fun p bag2 hp hB2 => ?_)
  walk_at "j"
  unfold tl_2
  walk_at "j"
  refine x_lenS (by omega) ?_
  walk_at "j"
  refine ⟨0, bag2, 1 + p, z.length, rfl, by omega, by omega, by omega, rfl, hB2, fun g bag3 hgl ok hB3 => ?_⟩
  dsimp only [List.set_cons_zero]
  walk_at "j"
  refine pull0 (by omega) (by omega) hB3 (fun s bag4 hs hB4 => ?_)
  walk_at "j"
  unfold tl_3
  walk_at "j"
  refine ⟨rfl, rfl, make_sq (d := .lst (g.map encRow)) hz rfl (by intro h; cases h) ok (by omega) (by omega) (by omega) ?_⟩
  walk_at "j"
  rw [show (1 : Int) + (p : Int) = ((g.length : Nat) : Int) by omega]
  unfold tl_4
  walk_at "j"
  refine ⟨z, g, s, rfl, ok, hz4, by omega, by omega, ?_⟩
  have bo : BOk g.length (reachF z g s) := reach_ok rfl ok (start_ok (by omega))
  have hbl := bo.len
  refine ⟨_, rfl, ?_⟩
  refine lc_M (reachF z g s) (fun p => pairD (kp p)) (f := fun p => natD p.1) rfl (by omega) (fun q hq2 Kt Kf hk => ?_) ?_
  · dsimp only [wipeD, List.set_cons_succ, List.set_cons_zero]
    unfold pairD
    walk_at "j"
    exact hk
  walk_at "j"
  refine ⟨upI (reachN z g s), by unfold upI reachN; rw [List.map_map, List.map_map]; rfl, fun ys hp2 hs2 => ?_⟩
  obtain ⟨ns, rfl, hpn⟩ := up_back hp2
  walk_at "j"
  exact st_5 ⟨hz, ok, by omega, by omega, hpn, up_lt hs2 (hpn.nodup_iff.mpr bo.nd)⟩ hB4 hk
theorem law_is (K : PySem.W.Frag) : u_law K cl = te_0 K cl := rfl
theorem r_law {cl : List (Str × Addr)} {ds : List Dat} {S : Store} {K : KE} {X : KX} (h : sp_law KF ds S K X) (hb : belows S.length ds) (hS : belows S.length S) : u_law KF cl (endsOf S K X) (startD ["_law_script", "_law_bag_here", "_law_turn_z", "_law_signs_here", "_law_many", "_law_goals_here", "_law_begin", "_law_made", "_law_some", "_law_some_set", "_law_text_here", "_law_led", "_law_due", "_law_asks", "_law_wide", "_law_others", "_law_odd", "_law_strange", "_law_at", "_law_one"] ds) S := by
  obtain ⟨ns, rfl, hns, hbits, rfl, k⟩ := h
  show u_law KF cl (endsOf [] K X) (some (.sq KF ns) :: none :: List.replicate 18 none) []
  have fin : ∀ S', (endsOf [] K X).rt (.bl true) S' := fun S' => exit_pure (S0 := []) (R := S') (by simp only [below]) (k _)
  rw [law_is]
  dsimp only [List.replicate]
  unfold te_0
  walk_at "j"
  refine ⟨ns, rfl, hns, fun bag hB => ?_⟩
  walk_at "j"
  dsimp only [List.nil_append, List.length_nil]
  unfold te_1
  walk_at "j"
  refine ⟨⟨by decide, by decide⟩, ?_⟩
  rw [show ((5 : Int)).toNat = 5 from rfl, rangeD0]
  refine for_T (List.range 5) _ (fun _ dl1 S2 => ∃ post bag', dl1 = [some (.sq KF ns), some (.cell 0)] ++ post ∧ post.length = 18 ∧ S2 = [bag'] ∧ IsBag bag') ?_ ?_ ?_ ?_
  · exact ⟨_, bag, rfl, rfl, rfl, hB⟩
  · intros; trivial
  · rintro pre i rest dl1 S2 hx ⟨post, bag', rfl, hpl, rfl, hB'⟩
    obtain ⟨x2, x3, x4, x5, x6, x7, x8, x9, x10, x11, x12, x13, x14, x15, x16, x17, x18, x19, rfl⟩ : ∃ x2 x3 x4 x5 x6 x7 x8 x9 x10 x11 x12 x13 x14 x15 x16 x17 x18 x19, post = [x2, x3, x4, x5, x6, x7, x8, x9, x10, x11, x12, x13, x14, x15, x16, x17, x18, x19] := by
      match post, hpl with
      | [x2, x3, x4, x5, x6, x7, x8, x9, x10, x11, x12, x13, x14, x15, x16, x17, x18, x19], _ => exact ⟨_, _, _, _, _, _, _, _, _, _, _, _, _, _, _, _, _, _, rfl⟩
    dsimp only [List.cons_append, List.nil_append]
    refine x_name (of_decide_eq_true rfl) ?_
    dsimp only [List.set_cons_succ, List.set_cons_zero]
    refine st_0 (R := []) hB' (fun dl bag2 R2 hB2 h1 h2 h3 => ?_)
    obtain ⟨post, rfl⟩ : ∃ post, dl = [some (.sq KF ns), some (.cell 0)] ++ post := by
      match dl, h2, h3 with
      | a :: b :: r, h2, h3 => cases h2; cases h3; exact ⟨r, rfl⟩
    refine gc_keep (J := fun dl1 S2 => ∃ post bag', dl1 = [some (.sq KF ns), some (.cell 0)] ++ post ∧ post.length = 18 ∧ S2 = [bag'] ∧ IsBag bag') (n := 18) (Nat.le_refl _) hB2 (fun d hd => ?_) (by simpa using h1) ⟨_, bag2, rfl, by simp, rfl, hB2⟩
    simp only [List.mem_cons, List.not_mem_nil, or_false, Option.some.injEq] at hd
    rcases hd with rfl | rfl
    · simp only [below]
    · simp only [below]; omega
  · rintro dl1 S2 ⟨post, bag', rfl, hpl, rfl, hB'⟩
    unfold te_2
    walk_at "j"
    exact fin _
end
end DL
namespace DL.KL
open PySem L2 DL NdefX
abbrev R : PySem.W.OpenRow := PySem.W.OpenLaw.row PySem.Challenge.rw_onlyahead_k14_images_and_turns_of_words
abbrev s_is_number : Stmt := top 15
abbrev N_is_number : List Str := ["value", "least", "most"]
theorem sc_is_number : FnScope N_is_number ["value", "least", "most"] (defScope s_is_number) := ⟨rfl, rfl, rfl, by decide +kernel, rfl, by decide +kernel, by decide +kernel⟩
abbrev s_ascends : Stmt := top 16
abbrev N_ascends : List Str := ["letters", "one", "other"]
theorem sc_ascends : FnScope N_ascends ["letters"] (defScope s_ascends) := ⟨rfl, rfl, rfl, by decide +kernel, rfl, by decide +kernel, by decide +kernel⟩
abbrev s_is_alphabet : Stmt := top 17
abbrev N_is_alphabet : List Str := ["value", "sign"]
theorem sc_is_alphabet : FnScope N_is_alphabet ["value"] (defScope s_is_alphabet) := ⟨rfl, rfl, rfl, by decide +kernel, rfl, by decide +kernel, by decide +kernel⟩
abbrev s_is_word : Stmt := top 18
abbrev N_is_word : List Str := ["alphabet", "value", "sign"]
theorem sc_is_word : FnScope N_is_word ["alphabet", "value"] (defScope s_is_word) := ⟨rfl, rfl, rfl, by decide +kernel, rfl, by decide +kernel, by decide +kernel⟩
abbrev s_need_alphabet : Stmt := top 19
abbrev N_need_alphabet : List Str := ["value"]
theorem sc_need_alphabet : FnScope N_need_alphabet ["value"] (defScope s_need_alphabet) := ⟨rfl, rfl, rfl, by decide +kernel, rfl, by decide +kernel, by decide +kernel⟩
abbrev s_need_word : Stmt := top 20
abbrev N_need_word : List Str := ["alphabet", "value"]
theorem sc_need_word : FnScope N_need_word ["alphabet", "value"] (defScope s_need_word) := ⟨rfl, rfl, rfl, by decide +kernel, rfl, by decide +kernel, by decide +kernel⟩
abbrev s_small_reach : Stmt := top 23
abbrev N_small_reach : List Str := ["machine", "found"]
theorem sc_small_reach : FnScope N_small_reach ["machine"] (defScope s_small_reach) := ⟨rfl, rfl, rfl, by decide +kernel, rfl, by decide +kernel, by decide +kernel⟩
abbrev s_is_set : Stmt := top 24
abbrev N_is_set : List Str := ["reached", "value", "state"]
theorem sc_is_set : FnScope N_is_set ["reached", "value"] (defScope s_is_set) := ⟨rfl, rfl, rfl, by decide +kernel, rfl, by decide +kernel, by decide +kernel⟩
abbrev s_need_set : Stmt := top 25
abbrev N_need_set : List Str := ["machine", "states"]
theorem sc_need_set : FnScope N_need_set ["machine", "states"] (defScope s_need_set) := ⟨rfl, rfl, rfl, by decide +kernel, rfl, by decide +kernel, by decide +kernel⟩
abbrev s_led_set : Stmt := top 26
abbrev N_led_set : List Str := ["machine", "states", "word", "state"]
theorem sc_led_set : FnScope N_led_set ["machine", "states", "word"] (defScope s_led_set) := ⟨rfl, rfl, rfl, by decide +kernel, rfl, by decide +kernel, by decide +kernel⟩
abbrev s_image : Stmt := top 27
abbrev N_image : List Str := ["machine", "states", "word"]
theorem sc_image : FnScope N_image ["machine", "states", "word"] (defScope s_image) := ⟨rfl, rfl, rfl, by decide +kernel, rfl, by decide +kernel, by decide +kernel⟩
abbrev s_turn : Stmt := top 28
abbrev N_turn : List Str := ["machine", "states", "word", "found"]
theorem sc_turn : FnScope N_turn ["machine", "states", "word"] (defScope s_turn) := ⟨rfl, rfl, rfl, by decide +kernel, rfl, by decide +kernel, by decide +kernel⟩
abbrev s_first_words : Stmt := top 30
abbrev N_first_words : List Str := ["rows", "starts", "letters", "found", "waiting", "at", "place", "goal", "letter"]
theorem sc_first_words : FnScope N_first_words ["rows", "starts", "letters"] (defScope s_first_words) := ⟨rfl, rfl, rfl, by decide +kernel, rfl, by decide +kernel, by decide +kernel⟩
abbrev s_is_row : Stmt := top 40
abbrev N_is_row : List Str := ["value", "width", "many", "state"]
theorem sc_is_row : FnScope N_is_row ["value", "width", "many"] (defScope s_is_row) := ⟨rfl, rfl, rfl, by decide +kernel, rfl, by decide +kernel, by decide +kernel⟩
abbrev s_Machine_init : Stmt := inClass (top 42) 1
abbrev N_Machine_init : List Str := ["self", "alphabet", "rows", "start", "at", "row"]
theorem sc_Machine_init : FnScope N_Machine_init ["self", "alphabet", "rows", "start"] (defScope s_Machine_init) := ⟨rfl, rfl, rfl, by decide +kernel, rfl, by decide +kernel, by decide +kernel⟩
abbrev s_Machine_alphabet : Stmt := inClass (top 42) 2
abbrev N_Machine_alphabet : List Str := ["self"]
theorem sc_Machine_alphabet : FnScope N_Machine_alphabet ["self"] (defScope s_Machine_alphabet) := ⟨rfl, rfl, rfl, by decide +kernel, rfl, by decide +kernel, by decide +kernel⟩
abbrev s_Machine_need_state : Stmt := inClass (top 42) 7
abbrev N_Machine_need_state : List Str := ["self", "state"]
theorem sc_Machine_need_state : FnScope N_Machine_need_state ["self", "state"] (defScope s_Machine_need_state) := ⟨rfl, rfl, rfl, by decide +kernel, rfl, by decide +kernel, by decide +kernel⟩
abbrev s_Machine_led : Stmt := inClass (top 42) 8
abbrev N_Machine_led : List Str := ["self", "state", "word", "letter"]
theorem sc_Machine_led : FnScope N_Machine_led ["self", "state", "word"] (defScope s_Machine_led) := ⟨rfl, rfl, rfl, by decide +kernel, rfl, by decide +kernel, by decide +kernel⟩
abbrev s_Machine_words_to_states : Stmt := inClass (top 42) 10
abbrev N_Machine_words_to_states : List Str := ["self"]
theorem sc_Machine_words_to_states : FnScope N_Machine_words_to_states ["self"] (defScope s_Machine_words_to_states) := ⟨rfl, rfl, rfl, by decide +kernel, rfl, by decide +kernel, by decide +kernel⟩
abbrev s_Machine_reachable : Stmt := inClass (top 42) 11
abbrev N_Machine_reachable : List Str := ["self"]
theorem sc_Machine_reachable : FnScope N_Machine_reachable ["self"] (defScope s_Machine_reachable) := ⟨rfl, rfl, rfl, by decide +kernel, rfl, by decide +kernel, by decide +kernel⟩
abbrev s_law_bag : Stmt := top 44
abbrev N_law_bag : List Str := ["_law_script", "_law_mixed", "_law_cell"]
theorem sc_law_bag : FnScope N_law_bag ["_law_script"] (defScope s_law_bag) := ⟨rfl, rfl, rfl, by decide +kernel, rfl, by decide +kernel, by decide +kernel⟩
abbrev s_law_pull : Stmt := top 45
abbrev N_law_pull : List Str := ["_law_bag_here", "_law_sides", "_law_cell", "_law_digit", "_law_twice"]
theorem sc_law_pull : FnScope N_law_pull ["_law_bag_here", "_law_sides"] (defScope s_law_pull) := ⟨rfl, rfl, rfl, by decide +kernel, rfl, by decide +kernel, by decide +kernel⟩
abbrev s_law_of : Stmt := top 46
abbrev N_law_of : List Str := ["_law_bag_here", "_law_some"]
theorem sc_law_of : FnScope N_law_of ["_law_bag_here", "_law_some"] (defScope s_law_of) := ⟨rfl, rfl, rfl, by decide +kernel, rfl, by decide +kernel, by decide +kernel⟩
abbrev s_law_same : Stmt := top 47
abbrev N_law_same : List Str := ["_law_found", "_law_due", "_law_a", "_law_b"]
theorem sc_law_same : FnScope N_law_same ["_law_found", "_law_due"] (defScope s_law_same) := ⟨rfl, rfl, rfl, by decide +kernel, rfl, by decide +kernel, by decide +kernel⟩
abbrev s_law_field : Stmt := top 48
abbrev N_law_field : List Str := ["_law_e"]
theorem sc_law_field : FnScope N_law_field ["_law_e"] (defScope s_law_field) := ⟨rfl, rfl, rfl, by decide +kernel, rfl, by decide +kernel, by decide +kernel⟩
abbrev s_law_got : Stmt := top 49
abbrev N_law_got : List Str := ["_law_ask", "_law_said", "_law_e"]
theorem sc_law_got : FnScope N_law_got ["_law_ask"] (defScope s_law_got) := ⟨rfl, rfl, rfl, by decide +kernel, rfl, by decide +kernel, by decide +kernel⟩
abbrev s_law_all_got : Stmt := top 50
abbrev N_law_all_got : List Str := ["_law_asks", "_law_ask"]
theorem sc_law_all_got : FnScope N_law_all_got ["_law_asks"] (defScope s_law_all_got) := ⟨rfl, rfl, rfl, by decide +kernel, rfl, by decide +kernel, by decide +kernel⟩
abbrev s_law_signs : Stmt := top 51
abbrev N_law_signs : List Str := ["_law_bag_here", "_law_many", "_law_found", "_law_k", "_law_rest", "_law_sign"]
theorem sc_law_signs : FnScope N_law_signs ["_law_bag_here"] (defScope s_law_signs) := ⟨rfl, rfl, rfl, by decide +kernel, rfl, by decide +kernel, by decide +kernel⟩
abbrev s_law_text : Stmt := top 52
abbrev N_law_text : List Str := ["_law_bag_here", "_law_signs_here", "_law_size", "_law_k"]
theorem sc_law_text : FnScope N_law_text ["_law_bag_here", "_law_signs_here", "_law_size"] (defScope s_law_text) := ⟨rfl, rfl, rfl, by decide +kernel, rfl, by decide +kernel, by decide +kernel⟩
abbrev s_law_goals : Stmt := top 53
abbrev N_law_goals : List Str := ["_law_bag_here", "_law_many", "_law_width", "_law_at", "_law_k"]
theorem sc_law_goals : FnScope N_law_goals ["_law_bag_here", "_law_many", "_law_width"] (defScope s_law_goals) := ⟨rfl, rfl, rfl, by decide +kernel, rfl, by decide +kernel, by decide +kernel⟩
abbrev s_law_go : Stmt := top 54
abbrev N_law_go : List Str := ["_law_goals_here", "_law_signs_here", "_law_at", "_law_text_here", "_law_sign"]
theorem sc_law_go : FnScope N_law_go ["_law_goals_here", "_law_signs_here", "_law_at", "_law_text_here"] (defScope s_law_go) := ⟨rfl, rfl, rfl, by decide +kernel, rfl, by decide +kernel, by decide +kernel⟩
abbrev s_law_reach : Stmt := top 55
abbrev N_law_reach : List Str := ["_law_goals_here", "_law_signs_here", "_law_at", "_law_found", "_law_done", "_law_here", "_law_text_here", "_law_k", "_law_one", "_law_late"]
theorem sc_law_reach : FnScope N_law_reach ["_law_goals_here", "_law_signs_here", "_law_at"] (defScope s_law_reach) := ⟨rfl, rfl, rfl, by decide +kernel, rfl, by decide +kernel, by decide +kernel⟩
abbrev N_law : List Str := ["_law_script", "_law_bag_here", "_law_turn_z", "_law_signs_here", "_law_many", "_law_goals_here", "_law_begin", "_law_made", "_law_some", "_law_some_set", "_law_text_here", "_law_led", "_law_due", "_law_asks", "_law_wide", "_law_others", "_law_odd", "_law_strange", "_law_at", "_law_one"]
theorem sc_law : FnScope N_law ["_law_script"] (defScope s_law) := ⟨rfl, rfl, rfl, by decide +kernel, rfl, by decide +kernel, by decide +kernel⟩
theorem lk_law_0 : LamK lam_law_0 ["_law_made", "_law_some_set", "_law_text_here"] ["_law_made", "_law_some_set", "_law_text_here"] := ⟨nscope_by (by decide +kernel), (fun e cl c pm ctv => rfl), (fun a e => by cases e)⟩
theorem lf_law_0 : ∀ y ∈ (["_law_made", "_law_some_set", "_law_text_here"] : List Str), (y, NameKind.free) ∈ (lam_law_0).scope.names := by decide +kernel
theorem lt_law_0 : LamT lam_law_0 (defScope s_law) := ⟨by decide +kernel, .inl ⟨rfl, rfl⟩, ⟨rfl, rfl⟩⟩
theorem lk_law_1 : LamK lam_law_1 ["_law_a", "_law_made", "_law_some_set", "_law_text_here"] ["_law_made", "_law_some_set", "_law_text_here"] := ⟨nscope_by (by decide +kernel), (fun e => by cases e), (fun a e => by cases e; exact fun cl c D pm ctv => ⟨_, rfl, fun u => rfl⟩)⟩
theorem lf_law_1 : ∀ y ∈ (["_law_made", "_law_some_set", "_law_text_here"] : List Str), (y, NameKind.free) ∈ (lam_law_1).scope.names := by decide +kernel
theorem lt_law_1 : LamT lam_law_1 (defScope s_law) := ⟨by decide +kernel, .inr ⟨_, _, (by intro e; cases e), rfl⟩, ⟨rfl, rfl⟩⟩
theorem lk_law_2 : LamK lam_law_2 ["_law_made", "_law_odd", "_law_strange"] ["_law_made", "_law_odd", "_law_strange"] := ⟨nscope_by (by decide +kernel), (fun e cl c pm ctv => rfl), (fun a e => by cases e)⟩
theorem lf_law_2 : ∀ y ∈ (["_law_made", "_law_odd", "_law_strange"] : List Str), (y, NameKind.free) ∈ (lam_law_2).scope.names := by decide +kernel
theorem lt_law_2 : LamT lam_law_2 (defScope s_law) := ⟨by decide +kernel, .inl ⟨rfl, rfl⟩, ⟨rfl, rfl⟩⟩
theorem lk_law_3 : LamK lam_law_3 ["_law_a", "_law_made", "_law_some_set", "_law_strange"] ["_law_made", "_law_some_set", "_law_strange"] := ⟨nscope_by (by decide +kernel), (fun e => by cases e), (fun a e => by cases e; exact fun cl c D pm ctv => ⟨_, rfl, fun u => rfl⟩)⟩
theorem lf_law_3 : ∀ y ∈ (["_law_made", "_law_some_set", "_law_strange"] : List Str), (y, NameKind.free) ∈ (lam_law_3).scope.names := by decide +kernel
theorem lt_law_3 : LamT lam_law_3 (defScope s_law) := ⟨by decide +kernel, .inr ⟨_, _, (by intro e; cases e), rfl⟩, ⟨rfl, rfl⟩⟩
abbrev s_InvalidAlphabet_init : Stmt := inClass (top 4) 0
def sd_InvalidAlphabet : DX.SupD := ⟨"InvalidAlphabet", "InvalidAlphabet.__init__", defArgs s_InvalidAlphabet_init, defBody s_InvalidAlphabet_init, defScope s_InvalidAlphabet_init⟩
theorem ss_InvalidAlphabet : DX.SupScope ["self", "given"] ["self", "given"] (defScope s_InvalidAlphabet_init) := ⟨rfl, rfl, rfl, by decide +kernel, rfl, by decide +kernel, by decide +kernel, fun y h => one_free (by decide +kernel) h, by decide +kernel, by decide +kernel⟩
abbrev s_InvalidWord_init : Stmt := inClass (top 5) 0
def sd_InvalidWord : DX.SupD := ⟨"InvalidWord", "InvalidWord.__init__", defArgs s_InvalidWord_init, defBody s_InvalidWord_init, defScope s_InvalidWord_init⟩
theorem ss_InvalidWord : DX.SupScope ["self", "given"] ["self", "given"] (defScope s_InvalidWord_init) := ⟨rfl, rfl, rfl, by decide +kernel, rfl, by decide +kernel, by decide +kernel, fun y h => one_free (by decide +kernel) h, by decide +kernel, by decide +kernel⟩
abbrev s_TooMany_init : Stmt := inClass (top 10) 0
def sd_TooMany : DX.SupD := ⟨"TooMany", "TooMany.__init__", defArgs s_TooMany_init, defBody s_TooMany_init, defScope s_TooMany_init⟩
theorem ss_TooMany : DX.SupScope ["self", "subject", "most"] ["self", "subject", "most"] (defScope s_TooMany_init) := ⟨rfl, rfl, rfl, by decide +kernel, rfl, by decide +kernel, by decide +kernel, fun y h => one_free (by decide +kernel) h, by decide +kernel, by decide +kernel⟩
abbrev s_InvalidSet_init : Stmt := inClass (top 8) 0
def sd_InvalidSet : DX.SupD := ⟨"InvalidSet", "InvalidSet.__init__", defArgs s_InvalidSet_init, defBody s_InvalidSet_init, defScope s_InvalidSet_init⟩
theorem ss_InvalidSet : DX.SupScope ["self", "given"] ["self", "given"] (defScope s_InvalidSet_init) := ⟨rfl, rfl, rfl, by decide +kernel, rfl, by decide +kernel, by decide +kernel, fun y h => one_free (by decide +kernel) h, by decide +kernel, by decide +kernel⟩
abbrev s_InvalidRows_init : Stmt := inClass (top 7) 0
def sd_InvalidRows : DX.SupD := ⟨"InvalidRows", "InvalidRows.__init__", defArgs s_InvalidRows_init, defBody s_InvalidRows_init, defScope s_InvalidRows_init⟩
theorem ss_InvalidRows : DX.SupScope ["self", "at"] ["self", "at"] (defScope s_InvalidRows_init) := ⟨rfl, rfl, rfl, by decide +kernel, rfl, by decide +kernel, by decide +kernel, fun y h => one_free (by decide +kernel) h, by decide +kernel, by decide +kernel⟩
abbrev s_InvalidState_init : Stmt := inClass (top 6) 0
def sd_InvalidState : DX.SupD := ⟨"InvalidState", "InvalidState.__init__", defArgs s_InvalidState_init, defBody s_InvalidState_init, defScope s_InvalidState_init⟩
theorem ss_InvalidState : DX.SupScope ["self", "given"] ["self", "given"] (defScope s_InvalidState_init) := ⟨rfl, rfl, rfl, by decide +kernel, rfl, by decide +kernel, by decide +kernel, fun y h => one_free (by decide +kernel) h, by decide +kernel, by decide +kernel⟩
def sd : List DX.SupD := [sd_InvalidAlphabet, sd_InvalidWord, sd_TooMany, sd_InvalidSet, sd_InvalidRows, sd_InvalidState]
def flds : List PySem.Str := ["code", "given", "at", "row", "name", "subject", "most"]
def ex (K : PySem.W.Frag) : Bool := (errs.all fun x => decide (PySem.W.exmAny K (.ref (He.ga K x)) [.ref (He.ga K "AheadError"), .ref (He.ga K "Missing"), .ref (He.ga K "NothingLeft")] = some true)) && (errs ++ (["InvalidAlphabet", "InvalidRows", "InvalidState"] : List PySem.Str)).all fun x => xfB K (He.ga K x) && flds.all fun f => He.eqO (PySem.W.findIn K (.ref (He.ga K x)) f) (some none)
def file : PySem.Str := PySem.Challenge.pw_onlyahead_k14_images_and_turns_of_words.main.file
def tf : List He.Defn := [("law", none)]
def tbs (K : PySem.W.Frag) : List (Addr × Str) := [((He.cT K ("law", none)).2, "law.<locals>.<lambda>")]
structure Tx (P : Program) (K : PySem.W.Frag) (mg : Str → Option Value) : Prop where
  pf : P.main.file = file
  ps : (P.main.scope.names.lookup ("super" : Str)).isSome = false
  sup : ∀ s ∈ sd, DX.supW K (DX.initAd K s.cls) = s.val ∧ s.ok K file = true
  more : ex K = true
  n_int : mg "int" = none
  n_isinstance : mg "isinstance" = none
  n_bool : mg "bool" = none
  n_zip : mg "zip" = none
  n_all : mg "all" = none
  n_str : mg "str" = none
  n_len : mg "len" = none
  i_MOST_LETTERS : ∃ t, mg "MOST_LETTERS" = some (.int 4 t)
  s_SMALL : ∃ t, mg "SMALL" = some (.str "abcdefghijklmnopqrstuvwxyz" t)
  g_ascends : mg "ascends" = some (.ref (He.ga K "ascends"))
  g_is_alphabet : mg "is_alphabet" = some (.ref (He.ga K "is_alphabet"))
  g_InvalidAlphabet : mg "InvalidAlphabet" = some (.ref (He.ga K "InvalidAlphabet"))
  g_is_word : mg "is_word" = some (.ref (He.ga K "is_word"))
  g_InvalidWord : mg "InvalidWord" = some (.ref (He.ga K "InvalidWord"))
  i_MOST_BUILT : ∃ t, mg "MOST_BUILT" = some (.int 6 t)
  g_TooMany : mg "TooMany" = some (.ref (He.ga K "TooMany"))
  n_tuple : mg "tuple" = none
  g_is_number : mg "is_number" = some (.ref (He.ga K "is_number"))
  g_small_reach : mg "small_reach" = some (.ref (He.ga K "small_reach"))
  g_is_set : mg "is_set" = some (.ref (He.ga K "is_set"))
  g_InvalidSet : mg "InvalidSet" = some (.ref (He.ga K "InvalidSet"))
  g_need_set : mg "need_set" = some (.ref (He.ga K "need_set"))
  g_need_word : mg "need_word" = some (.ref (He.ga K "need_word"))
  g_led_set : mg "led_set" = some (.ref (He.ga K "led_set"))
  n_sorted : mg "sorted" = none
  n_set : mg "set" = none
  n_dict : mg "dict" = none
  n_list : mg "list" = none
  g_need_alphabet : mg "need_alphabet" = some (.ref (He.ga K "need_alphabet"))
  g_InvalidRows : mg "InvalidRows" = some (.ref (He.ga K "InvalidRows"))
  i_MOST_STATES : ∃ t, mg "MOST_STATES" = some (.int 1000 t)
  n_enumerate : mg "enumerate" = none
  g_is_row : mg "is_row" = some (.ref (He.ga K "is_row"))
  g_InvalidState : mg "InvalidState" = some (.ref (He.ga K "InvalidState"))
  cl_Machine : Cls K (He.ga K "Machine")
  na_Machine_own_alphabet : NoAttr K (He.ga K "Machine") "own_alphabet"
  na_Machine_own_rows : NoAttr K (He.ga K "Machine") "own_rows"
  na_Machine_own_start : NoAttr K (He.ga K "Machine") "own_start"
  g_first_words : mg "first_words" = some (.ref (He.ga K "first_words"))
  n_abs : mg "abs" = none
  g_law_pull : mg "_law_pull" = some (.ref (He.ga K "_law_pull"))
  g_law_same : mg "_law_same" = some (.ref (He.ga K "_law_same"))
  g_AheadError : mg "AheadError" = some (.ref (He.ga K "AheadError"))
  g_Missing : mg "Missing" = some (.ref (He.ga K "Missing"))
  g_NothingLeft : mg "NothingLeft" = some (.ref (He.ga K "NothingLeft"))
  g_law_field : mg "_law_field" = some (.ref (He.ga K "_law_field"))
  g_law_got : mg "_law_got" = some (.ref (He.ga K "_law_got"))
  g_law_of : mg "_law_of" = some (.ref (He.ga K "_law_of"))
  n_range : mg "range" = none
  g_law_bag : mg "_law_bag" = some (.ref (He.ga K "_law_bag"))
  g_law_signs : mg "_law_signs" = some (.ref (He.ga K "_law_signs"))
  g_law_goals : mg "_law_goals" = some (.ref (He.ga K "_law_goals"))
  g_Machine : mg "Machine" = some (.ref (He.ga K "Machine"))
  g_law_reach : mg "_law_reach" = some (.ref (He.ga K "_law_reach"))
  g_law_text : mg "_law_text" = some (.ref (He.ga K "_law_text"))
  g_law_go : mg "_law_go" = some (.ref (He.ga K "_law_go"))
  g_image : mg "image" = some (.ref (He.ga K "image"))
  g_turn : mg "turn" = some (.ref (He.ga K "turn"))
  g_law_all_got : mg "_law_all_got" = some (.ref (He.ga K "_law_all_got"))
  me_Machine_reachable : Meth K (He.ga K "Machine") "reachable" (He.ma K (He.ga K "Machine") "reachable")
  me_Machine_led : Meth K (He.ga K "Machine") "led" (He.ma K (He.ga K "Machine") "led")
  me_Machine_need_state : Meth K (He.ga K "Machine") "need_state" (He.ma K (He.ga K "Machine") "need_state")
  me_Machine_words_to_states : Meth K (He.ga K "Machine") "words_to_states" (He.ma K (He.ga K "Machine") "words_to_states")
  mk_Machine : Mk K (He.ga K "Machine") (He.ma K (He.ga K "Machine") "__init__")
  n_super : mg "super" = none
  pr_Machine_alphabet : PropOf K (He.ga K "Machine") "alphabet" (DX.propAd K (He.ga K "Machine") "alphabet") (DX.gAd K (He.ga K "Machine") "alphabet")
  d_is_number : ∃ fd, FunD K "is_number" "is_number" (defArgs s_is_number) (defBody s_is_number) (defScope s_is_number) [.non] [] (He.ga K "is_number") fd
  d_ascends : ∃ fd, FunD K "ascends" "ascends" (defArgs s_ascends) (defBody s_ascends) (defScope s_ascends) [] [] (He.ga K "ascends") fd
  d_is_alphabet : ∃ fd, FunD K "is_alphabet" "is_alphabet" (defArgs s_is_alphabet) (defBody s_is_alphabet) (defScope s_is_alphabet) [] [] (He.ga K "is_alphabet") fd
  d_is_word : ∃ fd, FunD K "is_word" "is_word" (defArgs s_is_word) (defBody s_is_word) (defScope s_is_word) [] [] (He.ga K "is_word") fd
  d_need_alphabet : ∃ fd, FunD K "need_alphabet" "need_alphabet" (defArgs s_need_alphabet) (defBody s_need_alphabet) (defScope s_need_alphabet) [] [] (He.ga K "need_alphabet") fd
  d_need_word : ∃ fd, FunD K "need_word" "need_word" (defArgs s_need_word) (defBody s_need_word) (defScope s_need_word) [] [] (He.ga K "need_word") fd
  d_small_reach : ∃ fd, FunD K "small_reach" "small_reach" (defArgs s_small_reach) (defBody s_small_reach) (defScope s_small_reach) [] [] (He.ga K "small_reach") fd
  d_is_set : ∃ fd, FunD K "is_set" "is_set" (defArgs s_is_set) (defBody s_is_set) (defScope s_is_set) [] [] (He.ga K "is_set") fd
  d_need_set : ∃ fd, FunD K "need_set" "need_set" (defArgs s_need_set) (defBody s_need_set) (defScope s_need_set) [] [] (He.ga K "need_set") fd
  d_led_set : ∃ fd, FunD K "led_set" "led_set" (defArgs s_led_set) (defBody s_led_set) (defScope s_led_set) [] [] (He.ga K "led_set") fd
  d_image : ∃ fd, FunD K "image" "image" (defArgs s_image) (defBody s_image) (defScope s_image) [] [] (He.ga K "image") fd
  d_turn : ∃ fd, FunD K "turn" "turn" (defArgs s_turn) (defBody s_turn) (defScope s_turn) [] [] (He.ga K "turn") fd
  d_first_words : ∃ fd, FunD K "first_words" "first_words" (defArgs s_first_words) (defBody s_first_words) (defScope s_first_words) [] [] (He.ga K "first_words") fd
  d_is_row : ∃ fd, FunD K "is_row" "is_row" (defArgs s_is_row) (defBody s_is_row) (defScope s_is_row) [] [] (He.ga K "is_row") fd
  d_Machine_init : ∃ fd, FunD K "__init__" "Machine.__init__" (defArgs s_Machine_init) (defBody s_Machine_init) (defScope s_Machine_init) [] [("start", .int 0)] (He.ma K (He.ga K "Machine") "__init__") fd
  d_Machine_alphabet : ∃ fd, FunD K "alphabet" "Machine.alphabet" (defArgs s_Machine_alphabet) (defBody s_Machine_alphabet) (defScope s_Machine_alphabet) [] [] (DX.gAd K (He.ga K "Machine") "alphabet") fd
  d_Machine_need_state : ∃ fd, FunD K "need_state" "Machine.need_state" (defArgs s_Machine_need_state) (defBody s_Machine_need_state) (defScope s_Machine_need_state) [] [] (He.ma K (He.ga K "Machine") "need_state") fd
  d_Machine_led : ∃ fd, FunD K "led" "Machine.led" (defArgs s_Machine_led) (defBody s_Machine_led) (defScope s_Machine_led) [] [] (He.ma K (He.ga K "Machine") "led") fd
  d_Machine_words_to_states : ∃ fd, FunD K "words_to_states" "Machine.words_to_states" (defArgs s_Machine_words_to_states) (defBody s_Machine_words_to_states) (defScope s_Machine_words_to_states) [] [] (He.ma K (He.ga K "Machine") "words_to_states") fd
  d_Machine_reachable : ∃ fd, FunD K "reachable" "Machine.reachable" (defArgs s_Machine_reachable) (defBody s_Machine_reachable) (defScope s_Machine_reachable) [] [] (He.ma K (He.ga K "Machine") "reachable") fd
  d_law_bag : ∃ fd, FunD K "_law_bag" "_law_bag" (defArgs s_law_bag) (defBody s_law_bag) (defScope s_law_bag) [] [] (He.ga K "_law_bag") fd
  d_law_pull : ∃ fd, FunD K "_law_pull" "_law_pull" (defArgs s_law_pull) (defBody s_law_pull) (defScope s_law_pull) [] [] (He.ga K "_law_pull") fd
  d_law_of : ∃ fd, FunD K "_law_of" "_law_of" (defArgs s_law_of) (defBody s_law_of) (defScope s_law_of) [] [] (He.ga K "_law_of") fd
  d_law_same : ∃ fd, FunD K "_law_same" "_law_same" (defArgs s_law_same) (defBody s_law_same) (defScope s_law_same) [] [] (He.ga K "_law_same") fd
  d_law_field : ∃ fd, FunD K "_law_field" "_law_field" (defArgs s_law_field) (defBody s_law_field) (defScope s_law_field) [] [] (He.ga K "_law_field") fd
  d_law_got : ∃ fd, FunD K "_law_got" "_law_got" (defArgs s_law_got) (defBody s_law_got) (defScope s_law_got) [] [] (He.ga K "_law_got") fd
  d_law_all_got : ∃ fd, FunD K "_law_all_got" "_law_all_got" (defArgs s_law_all_got) (defBody s_law_all_got) (defScope s_law_all_got) [] [] (He.ga K "_law_all_got") fd
  d_law_signs : ∃ fd, FunD K "_law_signs" "_law_signs" (defArgs s_law_signs) (defBody s_law_signs) (defScope s_law_signs) [] [] (He.ga K "_law_signs") fd
  d_law_text : ∃ fd, FunD K "_law_text" "_law_text" (defArgs s_law_text) (defBody s_law_text) (defScope s_law_text) [] [] (He.ga K "_law_text") fd
  d_law_goals : ∃ fd, FunD K "_law_goals" "_law_goals" (defArgs s_law_goals) (defBody s_law_goals) (defScope s_law_goals) [] [] (He.ga K "_law_goals") fd
  d_law_go : ∃ fd, FunD K "_law_go" "_law_go" (defArgs s_law_go) (defBody s_law_go) (defScope s_law_go) [] [] (He.ga K "_law_go") fd
  d_law_reach : ∃ fd, FunD K "_law_reach" "_law_reach" (defArgs s_law_reach) (defBody s_law_reach) (defScope s_law_reach) [] [] (He.ga K "_law_reach") fd
  d_law : ∃ fd, FunD K "law" "law" (defArgs s_law) (defBody s_law) (defScope s_law) [] [] (He.ga K "law") fd
section
variable {P : Program} {w : World} {K : PySem.W.Frag} {mg : Str → Option Value}
theorem Tx.fi (T : Tx P K mg) : ∀ x ∈ errs ++ (["InvalidAlphabet", "InvalidRows", "InvalidState"] : List PySem.Str), xfB K (He.ga K x) = true ∧ ∀ f ∈ flds, PySem.W.findIn K (.ref (He.ga K x)) f = some none := fun x hx => by
  obtain ⟨_, h⟩ := He.ba T.more
  obtain ⟨h1, h2⟩ := He.ba (List.all_eq_true.mp h x hx)
  exact ⟨h1, fun f hf => He.eqO_ok (List.all_eq_true.mp h2 f hf)⟩
theorem Tx.em (T : Tx P K mg) : ∀ x ∈ errs, PySem.W.exmAny K (.ref (He.ga K x)) [.ref (He.ga K "AheadError"), .ref (He.ga K "Missing"), .ref (He.ga K "NothingLeft")] = some true := fun x hx => by
  obtain ⟨h, _⟩ := He.ba T.more
  exact of_decide_eq_true (List.all_eq_true.mp h x hx)
theorem tr_InvalidAlphabet (T : Tx P K mg) (base : Heap) : RaiseV P w K mg base 1 (He.ga K "InvalidAlphabet") [("code", .c "InvalidAlphabet"), ("given", .a 0)] 1 false := by
  obtain ⟨h1, h2⟩ := T.sup sd_InvalidAlphabet List.mem_cons_self
  rw [← T.pf] at h2
  obtain ⟨cc, cda, fd, Tc, hd, iC, tI⟩ := DX.SupD.supK (P := P) h1 h2 ⟨_, rfl, rfl⟩ T.ps
  exact ⟨_, fd, _, Tc.oex, iC, tI, DL.FnOk.ini (DX.ini1 (k := 0) Tc ss_InvalidAlphabet T.n_super ((T.fi "InvalidAlphabet" (by decide)).2 "given" (by decide)) ((T.fi "InvalidAlphabet" (by decide)).2 "code" (by decide)) (by decide) (by decide) (fun _ => rfl)) (fun ws h => True.intro), Tc.binds (ps := ["self", "given"]) hd (fun _ _ _ _ _ _ us hl => match us, hl with | [_, _], _ => rfl)⟩
theorem tr_InvalidWord (T : Tx P K mg) (base : Heap) : RaiseV P w K mg base 1 (He.ga K "InvalidWord") [("code", .c "InvalidWord"), ("given", .a 0)] 1 false := by
  obtain ⟨h1, h2⟩ := T.sup sd_InvalidWord (List.mem_cons_of_mem _ List.mem_cons_self)
  rw [← T.pf] at h2
  obtain ⟨cc, cda, fd, Tc, hd, iC, tI⟩ := DX.SupD.supK (P := P) h1 h2 ⟨_, rfl, rfl⟩ T.ps
  exact ⟨_, fd, _, Tc.oex, iC, tI, DL.FnOk.ini (DX.ini1 (k := 0) Tc ss_InvalidWord T.n_super ((T.fi "InvalidWord" (by decide)).2 "given" (by decide)) ((T.fi "InvalidWord" (by decide)).2 "code" (by decide)) (by decide) (by decide) (fun _ => rfl)) (fun ws h => True.intro), Tc.binds (ps := ["self", "given"]) hd (fun _ _ _ _ _ _ us hl => match us, hl with | [_, _], _ => rfl)⟩
theorem tr_TooMany (T : Tx P K mg) (base : Heap) : RaiseV P w K mg base 1 (He.ga K "TooMany") [("code", .c "TooMany"), ("most", .a 1), ("subject", .a 0)] 2 true := by
  obtain ⟨h1, h2⟩ := T.sup sd_TooMany (List.mem_cons_of_mem _ (List.mem_cons_of_mem _ List.mem_cons_self))
  rw [← T.pf] at h2
  obtain ⟨cc, cda, fd, Tc, hd, iC, tI⟩ := DX.SupD.supK (P := P) h1 h2 ⟨_, rfl, rfl⟩ T.ps
  exact ⟨_, fd, _, Tc.oex, iC, tI, DL.FnOk.ini (DX.ini2 (k := 0) Tc ss_TooMany T.n_super T.n_str (by decide +kernel) (by decide) ((T.fi "TooMany" (by decide)).2 "subject" (by decide)) ((T.fi "TooMany" (by decide)).2 "most" (by decide)) ((T.fi "TooMany" (by decide)).2 "code" (by decide)) (by decide) (by decide) (by decide) (by decide) (fun _ => rfl)) (fun ws h => h rfl), Tc.binds (ps := ["self", "subject", "most"]) hd (fun _ _ _ _ _ _ us hl => match us, hl with | [_, _, _], _ => rfl)⟩
theorem tr_InvalidSet (T : Tx P K mg) (base : Heap) : RaiseV P w K mg base 1 (He.ga K "InvalidSet") [("code", .c "InvalidSet"), ("given", .a 0)] 1 false := by
  obtain ⟨h1, h2⟩ := T.sup sd_InvalidSet (List.mem_cons_of_mem _ (List.mem_cons_of_mem _ (List.mem_cons_of_mem _ List.mem_cons_self)))
  rw [← T.pf] at h2
  obtain ⟨cc, cda, fd, Tc, hd, iC, tI⟩ := DX.SupD.supK (P := P) h1 h2 ⟨_, rfl, rfl⟩ T.ps
  exact ⟨_, fd, _, Tc.oex, iC, tI, DL.FnOk.ini (DX.ini1 (k := 0) Tc ss_InvalidSet T.n_super ((T.fi "InvalidSet" (by decide)).2 "given" (by decide)) ((T.fi "InvalidSet" (by decide)).2 "code" (by decide)) (by decide) (by decide) (fun _ => rfl)) (fun ws h => True.intro), Tc.binds (ps := ["self", "given"]) hd (fun _ _ _ _ _ _ us hl => match us, hl with | [_, _], _ => rfl)⟩
theorem tr_InvalidRows (T : Tx P K mg) (base : Heap) : RaiseV P w K mg base 1 (He.ga K "InvalidRows") [("code", .c "InvalidRows"), ("at", .a 0)] 1 false := by
  obtain ⟨h1, h2⟩ := T.sup sd_InvalidRows (List.mem_cons_of_mem _ (List.mem_cons_of_mem _ (List.mem_cons_of_mem _ (List.mem_cons_of_mem _ List.mem_cons_self))))
  rw [← T.pf] at h2
  obtain ⟨cc, cda, fd, Tc, hd, iC, tI⟩ := DX.SupD.supK (P := P) h1 h2 ⟨_, rfl, rfl⟩ T.ps
  exact ⟨_, fd, _, Tc.oex, iC, tI, DL.FnOk.ini (DX.ini1 (k := 0) Tc ss_InvalidRows T.n_super ((T.fi "InvalidRows" (by decide)).2 "at" (by decide)) ((T.fi "InvalidRows" (by decide)).2 "code" (by decide)) (by decide) (by decide) (fun _ => rfl)) (fun ws h => True.intro), Tc.binds (ps := ["self", "at"]) hd (fun _ _ _ _ _ _ us hl => match us, hl with | [_, _], _ => rfl)⟩
theorem tr_InvalidState (T : Tx P K mg) (base : Heap) : RaiseV P w K mg base 1 (He.ga K "InvalidState") [("code", .c "InvalidState"), ("given", .a 0)] 1 false := by
  obtain ⟨h1, h2⟩ := T.sup sd_InvalidState (List.mem_cons_of_mem _ (List.mem_cons_of_mem _ (List.mem_cons_of_mem _ (List.mem_cons_of_mem _ (List.mem_cons_of_mem _ List.mem_cons_self)))))
  rw [← T.pf] at h2
  obtain ⟨cc, cda, fd, Tc, hd, iC, tI⟩ := DX.SupD.supK (P := P) h1 h2 ⟨_, rfl, rfl⟩ T.ps
  exact ⟨_, fd, _, Tc.oex, iC, tI, DL.FnOk.ini (DX.ini1 (k := 0) Tc ss_InvalidState T.n_super ((T.fi "InvalidState" (by decide)).2 "given" (by decide)) ((T.fi "InvalidState" (by decide)).2 "code" (by decide)) (by decide) (by decide) (fun _ => rfl)) (fun ws h => True.intro), Tc.binds (ps := ["self", "given"]) hd (fun _ _ _ _ _ _ us hl => match us, hl with | [_, _], _ => rfl)⟩
theorem ok_is_number [Tabl] (T : Tx P K mg) (base : Heap) : ∃ fd, FunD K "is_number" "is_number" (defArgs s_is_number) (defBody s_is_number) (defScope s_is_number) [.non] [] (He.ga K "is_number") fd ∧ FnOk P w K mg base (L2.CX P w) 1 (He.ga K "is_number") fd ["value", "least", "most"] (spOf (sp_is_number K)) := by
  obtain ⟨fd, F⟩ := T.d_is_number
  refine ⟨fd, F, fnD (k := 0) F sc_is_number (fun ds S K X h => len_is_number h) ?hb (u := u_is_number K) (fun ds S K X h hb hS => r_is_number h hb hS)⟩
  intro cdv A outer s H E hr tk
  exact ⟨_, (dss_cons (ds_if (DW.dt (dw_or (dt_not (dt_tru (de_callB dcb_isi T.n_isinstance (da_cons (de_var 0) (da_cons (de_ty T.n_int) da_nil))))) (dw_or (dt_tru (de_callB dcb_isi T.n_isinstance (da_cons (de_var 0) (da_cons (de_ty T.n_bool) da_nil)))) (dw_or1 (dt_cmp dop_lt (de_var 0) (de_var 1)))))) (dss_one (ds_ret de_bl)) dss_nil)
    (dss_one (ds_ret (de_or (de_cmp dop_is (de_var 2) de_non) (de_one (de_cmp dop_le (de_var 0) (de_var 2)))))))⟩
theorem cis_number_2 [Tabl] (T : Tx P K mg) (base : Heap) : CalleeV P w K mg base 1 (He.ga K "is_number") ["value", "least", "most"] (sp_is_number K) [.non] [.non] := by
  obtain ⟨fd, F, G⟩ := ok_is_number (P := P) (w := w) T base
  obtain ⟨ds, vd, b⟩ := F.binds1 (ps := ["value", "least", "most"]) 2 0 (by simp) rfl (fun _ _ _ _ _ _ _ us its l1 l2 => match us, its, l1, l2 with | [_, _], [_], _, _ => ⟨_, rfl, rfl⟩)
  exact ⟨fd, ds, G, F.kp, b, vd, ⟨rfl, True.intro⟩⟩
theorem cis_number_3 [Tabl] (T : Tx P K mg) (base : Heap) : CalleeV P w K mg base 1 (He.ga K "is_number") ["value", "least", "most"] (sp_is_number K) [] [] := by
  obtain ⟨fd, F, G⟩ := ok_is_number (P := P) (w := w) T base
  obtain ⟨ds, vd, b⟩ := F.binds1 (ps := ["value", "least", "most"]) 3 1 (by simp) rfl (fun _ _ _ _ _ _ _ us its l1 l2 => match us, its, l1, l2 with | [_, _, _], [_], _, _ => ⟨_, rfl, rfl⟩)
  exact ⟨fd, ds, G, F.kp, b, vd, True.intro⟩
theorem ok_ascends [Tabl] (T : Tx P K mg) (base : Heap) : ∃ fd, FunD K "ascends" "ascends" (defArgs s_ascends) (defBody s_ascends) (defScope s_ascends) [] [] (He.ga K "ascends") fd ∧ FnOk P w K mg base (L2.CX P w) 1 (He.ga K "ascends") fd ["letters"] (spOf (sp_ascends K)) := by
  obtain ⟨fd, F⟩ := T.d_ascends
  refine ⟨fd, F, fnD (k := 0) F sc_ascends (fun ds S K X h => len_ascends h) ?hb (u := u_ascends K) (fun ds S K X h hb hS => r_ascends h hb hS)⟩
  intro cdv A outer s H E hr tk
  exact ⟨_, (dss_one (ds_ret (de_callB (dcb_all rfl) T.n_all (da_cons (de_lc (own := [("one", 1), ("other", 2)]) rfl sc_ascends.nd (di_zip T.n_zip (da_cons (de_var 0) (da_cons (de_sl (de_var 0) (do_some de_int) do_none) da_nil))) (blkOk_by (N := N_ascends) (sc := defScope s_ascends) (by decide +kernel)) (fun _ _ _ _ _ => (dg_tupK K rfl rfl (dgs_cons (dg_name (i := 1) sc_ascends.nd) (dgs_cons (dg_name (i := 2) sc_ascends.nd) dgs_nil)))) (fun _ _ _ _ _ => dts_nil) (fun _ _ _ _ _ => (de_cmp dop_lt (de_var 1) (de_var 2))) (by decide)) da_nil))))⟩
theorem cascends_1 [Tabl] (T : Tx P K mg) (base : Heap) : CalleeV P w K mg base 1 (He.ga K "ascends") ["letters"] (sp_ascends K) [] [] := by
  obtain ⟨fd, F, G⟩ := ok_ascends (P := P) (w := w) T base
  obtain ⟨ds, vd, b⟩ : ∃ ds, Vals [] ds ∧ Binds K fd ["letters"] ds := ⟨[], .nil, F.bindsN (fun _ _ _ _ _ _ us hl => match us, hl with | [_], _ => rfl)⟩
  exact ⟨fd, ds, G, F.kp, b, vd, True.intro⟩
theorem ok_is_alphabet [Tabl] (T : Tx P K mg) (base : Heap) : ∃ fd, FunD K "is_alphabet" "is_alphabet" (defArgs s_is_alphabet) (defBody s_is_alphabet) (defScope s_is_alphabet) [] [] (He.ga K "is_alphabet") fd ∧ FnOk P w K mg base (L2.CX P w) 2 (He.ga K "is_alphabet") fd ["value"] (spOf (sp_is_alphabet K)) := by
  have c_ascends_1 := cascends_1 (P := P) (w := w) T base
  obtain ⟨fd, F⟩ := T.d_is_alphabet
  refine ⟨fd, F, fnD (k := 1) F sc_is_alphabet (fun ds S K X h => len_is_alphabet h) ?hb (u := u_is_alphabet K) (fun ds S K X h hb hS => r_is_alphabet h hb hS)⟩
  intro cdv A outer s H E hr tk
  exact ⟨_, (dss_cons (ds_if (DW.dt (dw_or (dt_not (dt_tru (de_callB dcb_isi T.n_isinstance (da_cons (de_var 0) (da_cons (de_ty T.n_str) da_nil))))) (dw_or1 (dt_not (dt_chain dop_le dop_le de_int (de_callB dcb_len T.n_len (da_cons (de_var 0) da_nil)) (de_gint T.i_MOST_LETTERS)))))) (dss_one (ds_ret de_bl)) dss_nil)
    (dss_one (ds_ret (de_and (de_callB (dcb_all rfl) T.n_all (da_cons (de_lc (own := [("sign", 1)]) rfl sc_is_alphabet.nd (di_seq (de_var 0)) (blkOk_by (N := N_is_alphabet) (sc := defScope s_is_alphabet) (by decide +kernel)) (fun _ _ _ _ _ => (dg_name (i := 1) sc_is_alphabet.nd)) (fun _ _ _ _ _ => dts_nil) (fun _ _ _ _ _ => (de_cmp (dop_inK K rfl) (de_var 1) (de_gstr T.s_SMALL))) (by decide)) da_nil)) (de_one (de_callF c_ascends_1 hr (by first | decide | omega) T.g_ascends tk (da_cons (de_var 0) da_nil)))))))⟩
theorem cis_alphabet_1 [Tabl] (T : Tx P K mg) (base : Heap) : CalleeV P w K mg base 2 (He.ga K "is_alphabet") ["value"] (sp_is_alphabet K) [] [] := by
  obtain ⟨fd, F, G⟩ := ok_is_alphabet (P := P) (w := w) T base
  obtain ⟨ds, vd, b⟩ : ∃ ds, Vals [] ds ∧ Binds K fd ["value"] ds := ⟨[], .nil, F.bindsN (fun _ _ _ _ _ _ us hl => match us, hl with | [_], _ => rfl)⟩
  exact ⟨fd, ds, G, F.kp, b, vd, True.intro⟩
theorem ok_is_word [Tabl] (T : Tx P K mg) (base : Heap) : ∃ fd, FunD K "is_word" "is_word" (defArgs s_is_word) (defBody s_is_word) (defScope s_is_word) [] [] (He.ga K "is_word") fd ∧ FnOk P w K mg base (L2.CX P w) 1 (He.ga K "is_word") fd ["alphabet", "value"] (spOf (sp_is_word K)) := by
  obtain ⟨fd, F⟩ := T.d_is_word
  refine ⟨fd, F, fnD (k := 0) F sc_is_word (fun ds S K X h => len_is_word h) ?hb (u := u_is_word K) (fun ds S K X h hb hS => r_is_word h hb hS)⟩
  intro cdv A outer s H E hr tk
  exact ⟨_, (dss_one (ds_ret (de_and (de_callB dcb_isi T.n_isinstance (da_cons (de_var 1) (da_cons (de_ty T.n_str) da_nil))) (de_one (de_callB (dcb_all rfl) T.n_all (da_cons (de_lc (own := [("sign", 2)]) rfl sc_is_word.nd (di_seq (de_var 1)) (blkOk_by (N := N_is_word) (sc := defScope s_is_word) (by decide +kernel)) (fun _ _ _ _ _ => (dg_name (i := 2) sc_is_word.nd)) (fun _ _ _ _ _ => dts_nil) (fun _ _ _ _ _ => (de_cmp (dop_inK K rfl) (de_var 2) (de_var 0))) (by decide)) da_nil))))))⟩
theorem cis_word_2 [Tabl] (T : Tx P K mg) (base : Heap) : CalleeV P w K mg base 1 (He.ga K "is_word") ["alphabet", "value"] (sp_is_word K) [] [] := by
  obtain ⟨fd, F, G⟩ := ok_is_word (P := P) (w := w) T base
  obtain ⟨ds, vd, b⟩ : ∃ ds, Vals [] ds ∧ Binds K fd ["alphabet", "value"] ds := ⟨[], .nil, F.bindsN (fun _ _ _ _ _ _ us hl => match us, hl with | [_, _], _ => rfl)⟩
  exact ⟨fd, ds, G, F.kp, b, vd, True.intro⟩
theorem ok_need_alphabet [Tabl] (T : Tx P K mg) (base : Heap) : ∃ fd, FunD K "need_alphabet" "need_alphabet" (defArgs s_need_alphabet) (defBody s_need_alphabet) (defScope s_need_alphabet) [] [] (He.ga K "need_alphabet") fd ∧ FnOk P w K mg base (L2.CX P w) 3 (He.ga K "need_alphabet") fd ["value"] (spOf (sp_need_alphabet K)) := by
  have c_is_alphabet_1 := cis_alphabet_1 (P := P) (w := w) T base
  have rv_InvalidAlphabet := tr_InvalidAlphabet (P := P) (w := w) T base
  obtain ⟨fd, F⟩ := T.d_need_alphabet
  refine ⟨fd, F, fnD (k := 2) F sc_need_alphabet (fun ds S K X h => len_need_alphabet h) ?hb (u := u_need_alphabet K) (fun ds S K X h hb hS => r_need_alphabet h hb hS)⟩
  intro cdv A outer s H E hr tk
  exact ⟨_, (dss_one (ds_if (dt_not (dt_tru (de_callF c_is_alphabet_1 hr (by first | decide | omega) T.g_is_alphabet tk (da_cons (de_var 0) da_nil)))) (dss_one (ds_raise rv_InvalidAlphabet hr (by first | decide | omega) T.g_InvalidAlphabet tk (da_cons (de_var 0) da_nil))) dss_nil))⟩
theorem cneed_alphabet_1 [Tabl] (T : Tx P K mg) (base : Heap) : CalleeV P w K mg base 3 (He.ga K "need_alphabet") ["value"] (sp_need_alphabet K) [] [] := by
  obtain ⟨fd, F, G⟩ := ok_need_alphabet (P := P) (w := w) T base
  obtain ⟨ds, vd, b⟩ : ∃ ds, Vals [] ds ∧ Binds K fd ["value"] ds := ⟨[], .nil, F.bindsN (fun _ _ _ _ _ _ us hl => match us, hl with | [_], _ => rfl)⟩
  exact ⟨fd, ds, G, F.kp, b, vd, True.intro⟩
theorem ok_need_word [Tabl] (T : Tx P K mg) (base : Heap) : ∃ fd, FunD K "need_word" "need_word" (defArgs s_need_word) (defBody s_need_word) (defScope s_need_word) [] [] (He.ga K "need_word") fd ∧ FnOk P w K mg base (L2.CX P w) 3 (He.ga K "need_word") fd ["alphabet", "value"] (spOf (sp_need_word K)) := by
  have c_is_word_2 := cis_word_2 (P := P) (w := w) T base
  have rv_InvalidWord := tr_InvalidWord (P := P) (w := w) T base
  obtain ⟨fd, F⟩ := T.d_need_word
  refine ⟨fd, F, fnD (k := 2) F sc_need_word (fun ds S K X h => len_need_word h) ?hb (u := u_need_word K) (fun ds S K X h hb hS => r_need_word h hb hS)⟩
  intro cdv A outer s H E hr tk
  exact ⟨_, (dss_one (ds_if (dt_not (dt_tru (de_callF c_is_word_2 hr (by first | decide | omega) T.g_is_word tk (da_cons (de_var 0) (da_cons (de_var 1) da_nil))))) (dss_one (ds_raise rv_InvalidWord hr (by first | decide | omega) T.g_InvalidWord tk (da_cons (de_var 1) da_nil))) dss_nil))⟩
theorem cneed_word_2 [Tabl] (T : Tx P K mg) (base : Heap) : CalleeV P w K mg base 3 (He.ga K "need_word") ["alphabet", "value"] (sp_need_word K) [] [] := by
  obtain ⟨fd, F, G⟩ := ok_need_word (P := P) (w := w) T base
  obtain ⟨ds, vd, b⟩ : ∃ ds, Vals [] ds ∧ Binds K fd ["alphabet", "value"] ds := ⟨[], .nil, F.bindsN (fun _ _ _ _ _ _ us hl => match us, hl with | [_, _], _ => rfl)⟩
  exact ⟨fd, ds, G, F.kp, b, vd, True.intro⟩
theorem ok_first_words [Tabl] (T : Tx P K mg) (base : Heap) : ∃ fd, FunD K "first_words" "first_words" (defArgs s_first_words) (defBody s_first_words) (defScope s_first_words) [] [] (He.ga K "first_words") fd ∧ FnOk P w K mg base (L2.CX P w) 1 (He.ga K "first_words") fd ["rows", "starts", "letters"] (spOf (sp_first_words K)) := by
  obtain ⟨fd, F⟩ := T.d_first_words
  refine ⟨fd, F, fnD (k := 0) F sc_first_words (fun ds S K X h => len_first_words h) ?hb (u := u_first_words K) (fun ds S K X h hb hS => r_first_words h hb hS)⟩
  intro cdv A outer s H E hr tk
  exact ⟨_, (dss_cons (ds_set (i := 3) sc_first_words.nd (de_callT (dcb_dictP rfl) T.n_dict (da_cons (de_lc (own := [("place", 6)]) rfl sc_first_words.nd (di_seq (de_var 1)) (blkOk_by (N := N_first_words) (sc := defScope s_first_words) (by decide +kernel)) (fun _ _ _ _ _ => (dg_name (i := 6) sc_first_words.nd)) (fun _ _ _ _ _ => dts_nil) (fun _ _ _ _ _ => (de_tup (da_cons (de_var 6) (da_cons de_str da_nil)))) (by decide)) da_nil)))
    (dss_cons (ds_set (i := 4) sc_first_words.nd (de_callT dcb_listC T.n_list (da_cons (de_var 1) da_nil)))
    (dss_cons (ds_set (i := 5) sc_first_words.nd de_int)
    (dss_cons (ds_while (passes_of rfl) (dt_cmp dop_lt (de_var 5) (de_callB dcb_len T.n_len (da_cons (de_var 4) da_nil))) (dss_cons (ds_set (i := 6) sc_first_words.nd (de_ix (de_var 4) (de_var 5)))
    (dss_cons (ds_set (i := 5) sc_first_words.nd (de_bin dop_add (de_var 5) de_int))
    (dss_one (ds_for (passes_of rfl) rfl (di_zip T.n_zip (da_cons (de_ix (de_var 0) (de_var 6)) (da_cons (de_var 2) da_nil))) (dg_tup rfl (dgs_cons (dg_name (i := 7) sc_first_words.nd) (dgs_cons (dg_name (i := 8) sc_first_words.nd) dgs_nil))) (dss_one (ds_if (dt_cmp (dop_dnotin hr.units) (de_var 7) (de_var 3)) (dss_cons (ds_asg (de_bin dop_add (de_dget hr.units (de_var 3) (de_var 6)) (de_var 8)) (dg_sub (de_var 3) (de_var 7) (set_dict hr.units) dp_imp))
    (dss_one (ds_expr (de_bm PySem.F.plainAttrs_list PySem.F.slot_list_append PySem.F.type_list_append dmt_append (de_var 4) (da_cons (de_var 7) da_nil))))) dss_nil)))))))
    (dss_one (ds_ret (de_var 3)))))))⟩
theorem cfirst_words_3 [Tabl] (T : Tx P K mg) (base : Heap) : CalleeV P w K mg base 1 (He.ga K "first_words") ["rows", "starts", "letters"] (sp_first_words K) [] [] := by
  obtain ⟨fd, F, G⟩ := ok_first_words (P := P) (w := w) T base
  obtain ⟨ds, vd, b⟩ : ∃ ds, Vals [] ds ∧ Binds K fd ["rows", "starts", "letters"] ds := ⟨[], .nil, F.bindsN (fun _ _ _ _ _ _ us hl => match us, hl with | [_, _, _], _ => rfl)⟩
  exact ⟨fd, ds, G, F.kp, b, vd, True.intro⟩
theorem ok_Machine_words_to_states [Tabl] (T : Tx P K mg) (base : Heap) : ∃ fd, FunD K "words_to_states" "Machine.words_to_states" (defArgs s_Machine_words_to_states) (defBody s_Machine_words_to_states) (defScope s_Machine_words_to_states) [] [] (He.ma K (He.ga K "Machine") "words_to_states") fd ∧ FnOk P w K mg base (L2.CX P w) 2 (He.ma K (He.ga K "Machine") "words_to_states") fd ["self"] (spOf (sp_Machine_words_to_states K)) := by
  have c_first_words_3 := cfirst_words_3 (P := P) (w := w) T base
  obtain ⟨fd, F⟩ := T.d_Machine_words_to_states
  refine ⟨fd, F, fnD (k := 1) F sc_Machine_words_to_states (fun ds S K X h => len_Machine_words_to_states h) ?hb (u := u_Machine_words_to_states K) (fun ds S K X h hb hS => r_Machine_words_to_states h hb hS)⟩
  intro cdv A outer s H E hr tk
  exact ⟨_, (dss_one (ds_ret (de_callF c_first_words_3 hr (by first | decide | omega) T.g_first_words tk (da_cons (de_fld (allc ⟨T.cl_Machine, T.na_Machine_own_rows⟩ alln) (de_var 0)) (da_cons (de_lst (da_cons (de_fld (allc ⟨T.cl_Machine, T.na_Machine_own_start⟩ alln) (de_var 0)) da_nil)) (da_cons (de_fld (allc ⟨T.cl_Machine, T.na_Machine_own_alphabet⟩ alln) (de_var 0)) da_nil))))))⟩
theorem tm_words_to_states_1 [Tabl] (T : Tx P K mg) (base : Heap) : ∀ q ∈ ([(He.ga K "Machine", sp_Machine_words_to_states K)] : List (Addr × Spec)), MethV P w K mg base 2 "words_to_states" ["self"] [] [] q.1 q.2 := by
  refine (allc ?_ allnS)
  · obtain ⟨fd, F, G⟩ := ok_Machine_words_to_states (P := P) (w := w) T base
    obtain ⟨ds, vd, b⟩ : ∃ ds, Vals [] ds ∧ Binds K fd ["self"] ds := ⟨[], .nil, F.bindsN (fun _ _ _ _ _ _ us hl => match us, hl with | [_], _ => rfl)⟩
    exact ⟨_, fd, ds, T.cl_Machine, T.me_Machine_words_to_states, G.mono (by decide), b, vd, True.intro⟩
theorem ok_Machine_reachable [Tabl] (T : Tx P K mg) (base : Heap) : ∃ fd, FunD K "reachable" "Machine.reachable" (defArgs s_Machine_reachable) (defBody s_Machine_reachable) (defScope s_Machine_reachable) [] [] (He.ma K (He.ga K "Machine") "reachable") fd ∧ FnOk P w K mg base (L2.CX P w) 3 (He.ma K (He.ga K "Machine") "reachable") fd ["self"] (spOf (sp_Machine_reachable K)) := by
  have mm_words_to_states_1 := tm_words_to_states_1 (P := P) (w := w) T base
  obtain ⟨fd, F⟩ := T.d_Machine_reachable
  refine ⟨fd, F, fnD (k := 2) F sc_Machine_reachable (fun ds S K X h => len_Machine_reachable h) ?hb (u := u_Machine_reachable K) (fun ds S K X h hb hS => r_Machine_reachable h hb hS)⟩
  intro cdv A outer s H E hr tk
  exact ⟨_, (dss_one (ds_ret (de_callB (dcb_sortD (c := true) rfl) T.n_sorted (da_cons (de_meth0 mm_words_to_states_1 hr (by first | decide | omega) tk (de_var 0)) da_nil))))⟩
theorem tm_reachable_1 [Tabl] (T : Tx P K mg) (base : Heap) : ∀ q ∈ ([(He.ga K "Machine", sp_Machine_reachable K)] : List (Addr × Spec)), MethV P w K mg base 3 "reachable" ["self"] [] [] q.1 q.2 := by
  refine (allc ?_ allnS)
  · obtain ⟨fd, F, G⟩ := ok_Machine_reachable (P := P) (w := w) T base
    obtain ⟨ds, vd, b⟩ : ∃ ds, Vals [] ds ∧ Binds K fd ["self"] ds := ⟨[], .nil, F.bindsN (fun _ _ _ _ _ _ us hl => match us, hl with | [_], _ => rfl)⟩
    exact ⟨_, fd, ds, T.cl_Machine, T.me_Machine_reachable, G.mono (by decide), b, vd, True.intro⟩
theorem ok_small_reach [Tabl] (T : Tx P K mg) (base : Heap) : ∃ fd, FunD K "small_reach" "small_reach" (defArgs s_small_reach) (defBody s_small_reach) (defScope s_small_reach) [] [] (He.ga K "small_reach") fd ∧ FnOk P w K mg base (L2.CX P w) 4 (He.ga K "small_reach") fd ["machine"] (spOf (sp_small_reach K)) := by
  have mm_reachable_1 := tm_reachable_1 (P := P) (w := w) T base
  have rv_TooMany := tr_TooMany (P := P) (w := w) T base
  obtain ⟨fd, F⟩ := T.d_small_reach
  refine ⟨fd, F, fnD (k := 3) F sc_small_reach (fun ds S K X h => len_small_reach h) ?hb (u := u_small_reach K) (fun ds S K X h hb hS => r_small_reach h hb hS)⟩
  intro cdv A outer s H E hr tk
  exact ⟨_, (dss_cons (ds_set (i := 1) sc_small_reach.nd (de_meth0 mm_reachable_1 hr (by first | decide | omega) tk (de_var 0)))
    (dss_cons (ds_if (dt_cmp dop_gt (de_callB dcb_len T.n_len (da_cons (de_var 1) da_nil)) (de_gint T.i_MOST_BUILT)) (dss_one (ds_raise rv_TooMany hr (by first | decide | omega) T.g_TooMany tk (da_cons de_str (da_cons (de_gint T.i_MOST_BUILT) da_nil)))) dss_nil)
    (dss_one (ds_ret (de_var 1)))))⟩
theorem csmall_reach_1 [Tabl] (T : Tx P K mg) (base : Heap) : CalleeV P w K mg base 4 (He.ga K "small_reach") ["machine"] (sp_small_reach K) [] [] := by
  obtain ⟨fd, F, G⟩ := ok_small_reach (P := P) (w := w) T base
  obtain ⟨ds, vd, b⟩ : ∃ ds, Vals [] ds ∧ Binds K fd ["machine"] ds := ⟨[], .nil, F.bindsN (fun _ _ _ _ _ _ us hl => match us, hl with | [_], _ => rfl)⟩
  exact ⟨fd, ds, G, F.kp, b, vd, True.intro⟩
theorem ok_is_set [Tabl] (T : Tx P K mg) (base : Heap) : ∃ fd, FunD K "is_set" "is_set" (defArgs s_is_set) (defBody s_is_set) (defScope s_is_set) [] [] (He.ga K "is_set") fd ∧ FnOk P w K mg base (L2.CX P w) 2 (He.ga K "is_set") fd ["reached", "value"] (spOf (sp_is_set K)) := by
  have c_is_number_2 := cis_number_2 (P := P) (w := w) T base
  have c_ascends_1 := cascends_1 (P := P) (w := w) T base
  obtain ⟨fd, F⟩ := T.d_is_set
  refine ⟨fd, F, fnD (k := 1) F sc_is_set (fun ds S K X h => len_is_set h) ?hb (u := u_is_set K) (fun ds S K X h hb hS => r_is_set h hb hS)⟩
  intro cdv A outer s H E hr tk
  exact ⟨_, (dss_cons (ds_if (DW.dt (dw_or (dt_not (dt_tru (de_callB dcb_isi T.n_isinstance (da_cons (de_var 1) (da_cons (de_ty T.n_tuple) da_nil))))) (dw_or (dt_cmp (dop_eq hr.units) (de_callB dcb_len T.n_len (da_cons (de_var 1) da_nil)) de_int) (dw_or1 (dt_not (dt_tru (de_callB (dcb_all rfl) T.n_all (da_cons (de_lc (own := [("state", 2)]) rfl sc_is_set.nd (di_seq (de_var 1)) (blkOk_by (N := N_is_set) (sc := defScope s_is_set) (by decide +kernel)) (fun _ _ _ _ _ => (dg_name (i := 2) sc_is_set.nd)) (fun _ _ _ _ _ => dts_nil) (fun _ _ _ _ _ => (de_callF c_is_number_2 hr (by first | decide | omega) T.g_is_number takes_none5 (da_cons (de_var 2) (da_cons de_int da_nil)))) (by decide)) da_nil)))))))) (dss_one (ds_ret de_bl)) dss_nil)
    (dss_one (ds_ret (de_and (de_callF c_ascends_1 hr (by first | decide | omega) T.g_ascends tk (da_cons (de_var 1) da_nil)) (de_one (de_callB (dcb_all rfl) T.n_all (da_cons (de_lc (own := [("state", 2)]) rfl sc_is_set.nd (di_seq (de_var 1)) (blkOk_by (N := N_is_set) (sc := defScope s_is_set) (by decide +kernel)) (fun _ _ _ _ _ => (dg_name (i := 2) sc_is_set.nd)) (fun _ _ _ _ _ => dts_nil) (fun _ _ _ _ _ => (de_cmp (dop_inK K rfl) (de_var 2) (de_var 0))) (by decide)) da_nil)))))))⟩
theorem cis_set_2 [Tabl] (T : Tx P K mg) (base : Heap) : CalleeV P w K mg base 2 (He.ga K "is_set") ["reached", "value"] (sp_is_set K) [] [] := by
  obtain ⟨fd, F, G⟩ := ok_is_set (P := P) (w := w) T base
  obtain ⟨ds, vd, b⟩ : ∃ ds, Vals [] ds ∧ Binds K fd ["reached", "value"] ds := ⟨[], .nil, F.bindsN (fun _ _ _ _ _ _ us hl => match us, hl with | [_, _], _ => rfl)⟩
  exact ⟨fd, ds, G, F.kp, b, vd, True.intro⟩
theorem ok_need_set [Tabl] (T : Tx P K mg) (base : Heap) : ∃ fd, FunD K "need_set" "need_set" (defArgs s_need_set) (defBody s_need_set) (defScope s_need_set) [] [] (He.ga K "need_set") fd ∧ FnOk P w K mg base (L2.CX P w) 5 (He.ga K "need_set") fd ["machine", "states"] (spOf (sp_need_set K)) := by
  have c_small_reach_1 := csmall_reach_1 (P := P) (w := w) T base
  have c_is_set_2 := cis_set_2 (P := P) (w := w) T base
  have rv_InvalidSet := tr_InvalidSet (P := P) (w := w) T base
  obtain ⟨fd, F⟩ := T.d_need_set
  refine ⟨fd, F, fnD (k := 4) F sc_need_set (fun ds S K X h => len_need_set h) ?hb (u := u_need_set K) (fun ds S K X h hb hS => r_need_set h hb hS)⟩
  intro cdv A outer s H E hr tk
  exact ⟨_, (dss_one (ds_if (dt_not (dt_tru (de_callF c_is_set_2 hr (by first | decide | omega) T.g_is_set tk (da_cons (de_callF c_small_reach_1 hr (by first | decide | omega) T.g_small_reach tk (da_cons (de_var 0) da_nil)) (da_cons (de_var 1) da_nil))))) (dss_one (ds_raise rv_InvalidSet hr (by first | decide | omega) T.g_InvalidSet tk (da_cons (de_var 1) da_nil))) dss_nil))⟩
theorem cneed_set_2 [Tabl] (T : Tx P K mg) (base : Heap) : CalleeV P w K mg base 5 (He.ga K "need_set") ["machine", "states"] (sp_need_set K) [] [] := by
  obtain ⟨fd, F, G⟩ := ok_need_set (P := P) (w := w) T base
  obtain ⟨ds, vd, b⟩ : ∃ ds, Vals [] ds ∧ Binds K fd ["machine", "states"] ds := ⟨[], .nil, F.bindsN (fun _ _ _ _ _ _ us hl => match us, hl with | [_, _], _ => rfl)⟩
  exact ⟨fd, ds, G, F.kp, b, vd, True.intro⟩
theorem ok_Machine_need_state [Tabl] (T : Tx P K mg) (base : Heap) : ∃ fd, FunD K "need_state" "Machine.need_state" (defArgs s_Machine_need_state) (defBody s_Machine_need_state) (defScope s_Machine_need_state) [] [] (He.ma K (He.ga K "Machine") "need_state") fd ∧ FnOk P w K mg base (L2.CX P w) 3 (He.ma K (He.ga K "Machine") "need_state") fd ["self", "state"] (spOf (sp_Machine_need_state K)) := by
  have c_is_number_3 := cis_number_3 (P := P) (w := w) T base
  have rv_InvalidState := tr_InvalidState (P := P) (w := w) T base
  obtain ⟨fd, F⟩ := T.d_Machine_need_state
  refine ⟨fd, F, fnD (k := 2) F sc_Machine_need_state (fun ds S K X h => len_Machine_need_state h) ?hb (u := u_Machine_need_state K) (fun ds S K X h hb hS => r_Machine_need_state h hb hS)⟩
  intro cdv A outer s H E hr tk
  exact ⟨_, (dss_one (ds_if (dt_not (dt_tru (de_callF c_is_number_3 hr (by first | decide | omega) T.g_is_number tk (da_cons (de_var 1) (da_cons de_int (da_cons (de_bin dop_sub (de_callB dcb_len T.n_len (da_cons (de_fld (allc ⟨T.cl_Machine, T.na_Machine_own_rows⟩ alln) (de_var 0)) da_nil)) de_int) da_nil)))))) (dss_one (ds_raise rv_InvalidState hr (by first | decide | omega) T.g_InvalidState tk (da_cons (de_var 1) da_nil))) dss_nil))⟩
theorem tm_need_state_2 [Tabl] (T : Tx P K mg) (base : Heap) : ∀ q ∈ ([(He.ga K "Machine", sp_Machine_need_state K)] : List (Addr × Spec)), MethV P w K mg base 3 "need_state" ["self", "state"] [] [] q.1 q.2 := by
  refine (allc ?_ allnS)
  · obtain ⟨fd, F, G⟩ := ok_Machine_need_state (P := P) (w := w) T base
    obtain ⟨ds, vd, b⟩ : ∃ ds, Vals [] ds ∧ Binds K fd ["self", "state"] ds := ⟨[], .nil, F.bindsN (fun _ _ _ _ _ _ us hl => match us, hl with | [_, _], _ => rfl)⟩
    exact ⟨_, fd, ds, T.cl_Machine, T.me_Machine_need_state, G.mono (by decide), b, vd, True.intro⟩
theorem ok_Machine_led [Tabl] (T : Tx P K mg) (base : Heap) : ∃ fd, FunD K "led" "Machine.led" (defArgs s_Machine_led) (defBody s_Machine_led) (defScope s_Machine_led) [] [] (He.ma K (He.ga K "Machine") "led") fd ∧ FnOk P w K mg base (L2.CX P w) 4 (He.ma K (He.ga K "Machine") "led") fd ["self", "state", "word"] (spOf (sp_Machine_led K)) := by
  have c_need_word_2 := cneed_word_2 (P := P) (w := w) T base
  have mm_need_state_2 := tm_need_state_2 (P := P) (w := w) T base
  obtain ⟨fd, F⟩ := T.d_Machine_led
  refine ⟨fd, F, fnD (k := 3) F sc_Machine_led (fun ds S K X h => len_Machine_led h) ?hb (u := u_Machine_led K) (fun ds S K X h hb hS => r_Machine_led h hb hS)⟩
  intro cdv A outer s H E hr tk
  exact ⟨_, (dss_cons (ds_expr (de_meth mm_need_state_2 hr (by first | decide | omega) tk (de_var 0) (da_cons (de_var 1) da_nil)))
    (dss_cons (ds_expr (de_callF c_need_word_2 hr (by first | decide | omega) T.g_need_word tk (da_cons (de_fld (allc ⟨T.cl_Machine, T.na_Machine_own_alphabet⟩ alln) (de_var 0)) (da_cons (de_var 2) da_nil))))
    (dss_cons (ds_for (passes_of rfl) rfl (di_seq (de_var 2)) (dg_name (i := 3) sc_Machine_led.nd) (dss_one (ds_set (i := 1) sc_Machine_led.nd (de_ix (de_ix (de_fld (allc ⟨T.cl_Machine, T.na_Machine_own_rows⟩ alln) (de_var 0)) (de_var 1)) (de_bm PySem.F.plainAttrs_str PySem.F.slot_str_index PySem.F.type_str_index dmt_sindex (de_fld (allc ⟨T.cl_Machine, T.na_Machine_own_alphabet⟩ alln) (de_var 0)) (da_cons (de_var 3) da_nil))))))
    (dss_one (ds_ret (de_var 1))))))⟩
theorem tm_led_3 [Tabl] (T : Tx P K mg) (base : Heap) : ∀ q ∈ ([(He.ga K "Machine", sp_Machine_led K)] : List (Addr × Spec)), MethV P w K mg base 4 "led" ["self", "state", "word"] [] [] q.1 q.2 := by
  refine (allc ?_ allnS)
  · obtain ⟨fd, F, G⟩ := ok_Machine_led (P := P) (w := w) T base
    obtain ⟨ds, vd, b⟩ : ∃ ds, Vals [] ds ∧ Binds K fd ["self", "state", "word"] ds := ⟨[], .nil, F.bindsN (fun _ _ _ _ _ _ us hl => match us, hl with | [_, _, _], _ => rfl)⟩
    exact ⟨_, fd, ds, T.cl_Machine, T.me_Machine_led, G.mono (by decide), b, vd, True.intro⟩
theorem ok_led_set [Tabl] (T : Tx P K mg) (base : Heap) : ∃ fd, FunD K "led_set" "led_set" (defArgs s_led_set) (defBody s_led_set) (defScope s_led_set) [] [] (He.ga K "led_set") fd ∧ FnOk P w K mg base (L2.CX P w) 5 (He.ga K "led_set") fd ["machine", "states", "word"] (spOf (sp_led_set K)) := by
  have mm_led_3 := tm_led_3 (P := P) (w := w) T base
  obtain ⟨fd, F⟩ := T.d_led_set
  refine ⟨fd, F, fnD (k := 4) F sc_led_set (fun ds S K X h => len_led_set h) ?hb (u := u_led_set K) (fun ds S K X h hb hS => r_led_set h hb hS)⟩
  intro cdv A outer s H E hr tk
  exact ⟨_, (dss_one (ds_ret (de_callT dcb_tuple T.n_tuple (da_cons (de_lc (own := [("state", 3)]) rfl sc_led_set.nd (di_seq (de_var 1)) (blkOk_by (N := N_led_set) (sc := defScope s_led_set) (by decide +kernel)) (fun _ _ _ _ _ => (dg_name (i := 3) sc_led_set.nd)) (fun _ _ _ _ _ => dts_nil) (fun _ _ _ _ _ => (de_meth mm_led_3 hr (by first | decide | omega) takes_none5 (de_var 0) (da_cons (de_var 3) (da_cons (de_var 2) da_nil)))) (by decide)) da_nil))))⟩
theorem cled_set_3 [Tabl] (T : Tx P K mg) (base : Heap) : CalleeV P w K mg base 5 (He.ga K "led_set") ["machine", "states", "word"] (sp_led_set K) [] [] := by
  obtain ⟨fd, F, G⟩ := ok_led_set (P := P) (w := w) T base
  obtain ⟨ds, vd, b⟩ : ∃ ds, Vals [] ds ∧ Binds K fd ["machine", "states", "word"] ds := ⟨[], .nil, F.bindsN (fun _ _ _ _ _ _ us hl => match us, hl with | [_, _, _], _ => rfl)⟩
  exact ⟨fd, ds, G, F.kp, b, vd, True.intro⟩
theorem ok_Machine_alphabet [Tabl] (T : Tx P K mg) (base : Heap) : ∃ fd, FunD K "alphabet" "Machine.alphabet" (defArgs s_Machine_alphabet) (defBody s_Machine_alphabet) (defScope s_Machine_alphabet) [] [] (DX.gAd K (He.ga K "Machine") "alphabet") fd ∧ FnOk P w K mg base (L2.CX P w) 1 (DX.gAd K (He.ga K "Machine") "alphabet") fd ["self"] (spOf (sp_Machine_alphabet K)) := by
  obtain ⟨fd, F⟩ := T.d_Machine_alphabet
  refine ⟨fd, F, fnD (k := 0) F sc_Machine_alphabet (fun ds S K X h => len_Machine_alphabet h) ?hb (u := u_Machine_alphabet K) (fun ds S K X h hb hS => r_Machine_alphabet h hb hS)⟩
  intro cdv A outer s H E hr tk
  exact ⟨_, (dss_one (ds_ret (de_fld (allc ⟨T.cl_Machine, T.na_Machine_own_alphabet⟩ alln) (de_var 0))))⟩
theorem tp_alphabet [Tabl] (T : Tx P K mg) (base : Heap) : ∀ q ∈ ([(He.ga K "Machine", sp_Machine_alphabet K)] : List (Addr × Spec)), PropV P w K mg base 1 "alphabet" q.1 q.2 := by
  refine (allc ?_ allnS)
  · obtain ⟨fd, F, G⟩ := ok_Machine_alphabet (P := P) (w := w) T base
    exact ⟨_, _, fd, T.cl_Machine, T.pr_Machine_alphabet, G.mono (by decide), F.bindsN (fun _ _ _ _ _ _ us hl => match us, hl with | [_], _ => rfl)⟩
theorem ok_image [Tabl] (T : Tx P K mg) (base : Heap) : ∃ fd, FunD K "image" "image" (defArgs s_image) (defBody s_image) (defScope s_image) [] [] (He.ga K "image") fd ∧ FnOk P w K mg base (L2.CX P w) 6 (He.ga K "image") fd ["machine", "states", "word"] (spOf (sp_image K)) := by
  have c_need_set_2 := cneed_set_2 (P := P) (w := w) T base
  have c_need_word_2 := cneed_word_2 (P := P) (w := w) T base
  have c_led_set_3 := cled_set_3 (P := P) (w := w) T base
  have pp_alphabet := tp_alphabet (P := P) (w := w) T base
  obtain ⟨fd, F⟩ := T.d_image
  refine ⟨fd, F, fnD (k := 5) F sc_image (fun ds S K X h => len_image h) ?hb (u := u_image K) (fun ds S K X h hb hS => r_image h hb hS)⟩
  intro cdv A outer s H E hr tk
  exact ⟨_, (dss_cons (ds_expr (de_callF c_need_set_2 hr (by first | decide | omega) T.g_need_set tk (da_cons (de_var 0) (da_cons (de_var 1) da_nil))))
    (dss_cons (ds_expr (de_callF c_need_word_2 hr (by first | decide | omega) T.g_need_word tk (da_cons (de_prop pp_alphabet hr (by first | decide | omega) (de_var 0)) (da_cons (de_var 2) da_nil))))
    (dss_one (ds_ret (de_callT dcb_tuple T.n_tuple (da_cons (de_sortset rfl T.n_sorted T.n_set (de_callF c_led_set_3 hr (by first | decide | omega) T.g_led_set tk (da_cons (de_var 0) (da_cons (de_var 1) (da_cons (de_var 2) da_nil))))) da_nil))))))⟩
theorem cimage_3 [Tabl] (T : Tx P K mg) (base : Heap) : CalleeV P w K mg base 6 (He.ga K "image") ["machine", "states", "word"] (sp_image K) [] [] := by
  obtain ⟨fd, F, G⟩ := ok_image (P := P) (w := w) T base
  obtain ⟨ds, vd, b⟩ : ∃ ds, Vals [] ds ∧ Binds K fd ["machine", "states", "word"] ds := ⟨[], .nil, F.bindsN (fun _ _ _ _ _ _ us hl => match us, hl with | [_, _, _], _ => rfl)⟩
  exact ⟨fd, ds, G, F.kp, b, vd, True.intro⟩
theorem ok_turn [Tabl] (T : Tx P K mg) (base : Heap) : ∃ fd, FunD K "turn" "turn" (defArgs s_turn) (defBody s_turn) (defScope s_turn) [] [] (He.ga K "turn") fd ∧ FnOk P w K mg base (L2.CX P w) 6 (He.ga K "turn") fd ["machine", "states", "word"] (spOf (sp_turn K)) := by
  have c_need_set_2 := cneed_set_2 (P := P) (w := w) T base
  have c_need_word_2 := cneed_word_2 (P := P) (w := w) T base
  have c_led_set_3 := cled_set_3 (P := P) (w := w) T base
  have pp_alphabet := tp_alphabet (P := P) (w := w) T base
  obtain ⟨fd, F⟩ := T.d_turn
  refine ⟨fd, F, fnD (k := 5) F sc_turn (fun ds S K X h => len_turn h) ?hb (u := u_turn K) (fun ds S K X h hb hS => r_turn h hb hS)⟩
  intro cdv A outer s H E hr tk
  exact ⟨_, (dss_cons (ds_expr (de_callF c_need_set_2 hr (by first | decide | omega) T.g_need_set tk (da_cons (de_var 0) (da_cons (de_var 1) da_nil))))
    (dss_cons (ds_expr (de_callF c_need_word_2 hr (by first | decide | omega) T.g_need_word tk (da_cons (de_prop pp_alphabet hr (by first | decide | omega) (de_var 0)) (da_cons (de_var 2) da_nil))))
    (dss_cons (ds_set (i := 3) sc_turn.nd (de_callF c_led_set_3 hr (by first | decide | omega) T.g_led_set tk (da_cons (de_var 0) (da_cons (de_var 1) (da_cons (de_var 2) da_nil)))))
    (dss_one (ds_ret (de_if (dt_cmp (dop_eq hr.units) (de_callT dcb_tuple T.n_tuple (da_cons (de_callB dcb_sortU T.n_sorted (da_cons (de_var 3) da_nil)) da_nil)) (de_var 1)) (de_var 3) de_non))))))⟩
theorem cturn_3 [Tabl] (T : Tx P K mg) (base : Heap) : CalleeV P w K mg base 6 (He.ga K "turn") ["machine", "states", "word"] (sp_turn K) [] [] := by
  obtain ⟨fd, F, G⟩ := ok_turn (P := P) (w := w) T base
  obtain ⟨ds, vd, b⟩ : ∃ ds, Vals [] ds ∧ Binds K fd ["machine", "states", "word"] ds := ⟨[], .nil, F.bindsN (fun _ _ _ _ _ _ us hl => match us, hl with | [_, _, _], _ => rfl)⟩
  exact ⟨fd, ds, G, F.kp, b, vd, True.intro⟩
theorem ok_is_row [Tabl] (T : Tx P K mg) (base : Heap) : ∃ fd, FunD K "is_row" "is_row" (defArgs s_is_row) (defBody s_is_row) (defScope s_is_row) [] [] (He.ga K "is_row") fd ∧ FnOk P w K mg base (L2.CX P w) 2 (He.ga K "is_row") fd ["value", "width", "many"] (spOf (sp_is_row K)) := by
  have c_is_number_3 := cis_number_3 (P := P) (w := w) T base
  obtain ⟨fd, F⟩ := T.d_is_row
  refine ⟨fd, F, fnD (k := 1) F sc_is_row (fun ds S K X h => len_is_row h) ?hb (u := u_is_row K) (fun ds S K X h hb hS => r_is_row h hb hS)⟩
  intro cdv A outer s H E hr tk
  exact ⟨_, (dss_one (ds_ret (de_and (de_callB dcb_isi T.n_isinstance (da_cons (de_var 0) (da_cons (de_ty T.n_tuple) da_nil))) (de_and (de_cmp (dop_eq hr.units) (de_callB dcb_len T.n_len (da_cons (de_var 0) da_nil)) (de_var 1)) (de_one (de_callB (dcb_all rfl) T.n_all (da_cons (de_lc (own := [("state", 3)]) rfl sc_is_row.nd (di_seq (de_var 0)) (blkOk_by (N := N_is_row) (sc := defScope s_is_row) (by decide +kernel)) (fun _ _ _ _ _ => (dg_name (i := 3) sc_is_row.nd)) (fun _ _ _ _ _ => dts_nil) (fun _ _ _ _ _ => (de_callF c_is_number_3 hr (by first | decide | omega) T.g_is_number takes_none5 (da_cons (de_var 3) (da_cons de_int (da_cons (de_bin dop_sub (de_var 2) de_int) da_nil))))) (by decide)) da_nil)))))))⟩
theorem cis_row_3 [Tabl] (T : Tx P K mg) (base : Heap) : CalleeV P w K mg base 2 (He.ga K "is_row") ["value", "width", "many"] (sp_is_row K) [] [] := by
  obtain ⟨fd, F, G⟩ := ok_is_row (P := P) (w := w) T base
  obtain ⟨ds, vd, b⟩ : ∃ ds, Vals [] ds ∧ Binds K fd ["value", "width", "many"] ds := ⟨[], .nil, F.bindsN (fun _ _ _ _ _ _ us hl => match us, hl with | [_, _, _], _ => rfl)⟩
  exact ⟨fd, ds, G, F.kp, b, vd, True.intro⟩
theorem ok_Machine_init [Tabl] (T : Tx P K mg) (base : Heap) : ∃ fd, FunD K "__init__" "Machine.__init__" (defArgs s_Machine_init) (defBody s_Machine_init) (defScope s_Machine_init) [] [("start", .int 0)] (He.ma K (He.ga K "Machine") "__init__") fd ∧ FnOk P w K mg base (L2.CX P w) 4 (He.ma K (He.ga K "Machine") "__init__") fd ["self", "alphabet", "rows", "start"] (spOf (sp_Machine_init K)) := by
  have c_need_alphabet_1 := cneed_alphabet_1 (P := P) (w := w) T base
  have c_is_row_3 := cis_row_3 (P := P) (w := w) T base
  have c_is_number_3 := cis_number_3 (P := P) (w := w) T base
  have rv_InvalidRows := tr_InvalidRows (P := P) (w := w) T base
  have rv_TooMany := tr_TooMany (P := P) (w := w) T base
  have rv_InvalidState := tr_InvalidState (P := P) (w := w) T base
  obtain ⟨fd, F⟩ := T.d_Machine_init
  refine ⟨fd, F, fnD (k := 3) F sc_Machine_init (fun ds S K X h => len_Machine_init h) ?hb (u := u_Machine_init K) (fun ds S K X h hb hS => r_Machine_init h hb hS)⟩
  intro cdv A outer s H E hr tk
  exact ⟨_, (dss_cons (ds_expr (de_callF c_need_alphabet_1 hr (by first | decide | omega) T.g_need_alphabet tk (da_cons (de_var 1) da_nil)))
    (dss_cons (ds_if (DW.dt (dw_or (dt_not (dt_tru (de_callB dcb_isi T.n_isinstance (da_cons (de_var 2) (da_cons (de_tup (da_cons (de_ty T.n_list) (da_cons (de_ty T.n_tuple) da_nil))) da_nil))))) (dw_or1 (dt_cmp (dop_eq hr.units) (de_callB dcb_len T.n_len (da_cons (de_var 2) da_nil)) de_int)))) (dss_one (ds_raise rv_InvalidRows hr (by first | decide | omega) T.g_InvalidRows tk (da_cons de_int da_nil))) dss_nil)
    (dss_cons (ds_if (dt_cmp dop_gt (de_callB dcb_len T.n_len (da_cons (de_var 2) da_nil)) (de_gint T.i_MOST_STATES)) (dss_one (ds_raise rv_TooMany hr (by first | decide | omega) T.g_TooMany tk (da_cons de_str (da_cons (de_gint T.i_MOST_STATES) da_nil)))) dss_nil)
    (dss_cons (ds_for (passes_of rfl) rfl (di_enumS T.n_enumerate (da_cons (de_var 2) da_nil)) (dg_tup rfl (dgs_cons (dg_name (i := 4) sc_Machine_init.nd) (dgs_cons (dg_name (i := 5) sc_Machine_init.nd) dgs_nil))) (dss_one (ds_if (dt_not (dt_tru (de_callF c_is_row_3 hr (by first | decide | omega) T.g_is_row tk (da_cons (de_var 5) (da_cons (de_callB dcb_len T.n_len (da_cons (de_var 1) da_nil)) (da_cons (de_callB dcb_len T.n_len (da_cons (de_var 2) da_nil)) da_nil)))))) (dss_one (ds_raise rv_InvalidRows hr (by first | decide | omega) T.g_InvalidRows tk (da_cons (de_var 4) da_nil))) dss_nil)))
    (dss_cons (ds_if (dt_not (dt_tru (de_callF c_is_number_3 hr (by first | decide | omega) T.g_is_number tk (da_cons (de_var 3) (da_cons de_int (da_cons (de_bin dop_sub (de_callB dcb_len T.n_len (da_cons (de_var 2) da_nil)) de_int) da_nil)))))) (dss_one (ds_raise rv_InvalidState hr (by first | decide | omega) T.g_InvalidState tk (da_cons (de_var 3) da_nil))) dss_nil)
    (dss_cons (ds_fld (allc ⟨T.cl_Machine, T.na_Machine_own_alphabet⟩ alln) (de_var 0) (de_var 1))
    (dss_cons (ds_fld (allc ⟨T.cl_Machine, T.na_Machine_own_rows⟩ alln) (de_var 0) (de_callT dcb_list T.n_list (da_cons (de_var 2) da_nil)))
    (dss_one (ds_fld (allc ⟨T.cl_Machine, T.na_Machine_own_start⟩ alln) (de_var 0) (de_var 3))))))))))⟩
theorem tw_Machine_3_start [Tabl] (T : Tx P K mg) (base : Heap) : MakeKV P w K mg base 4 ["self", "alphabet", "rows", "start"] 3 ["start"] (gApV []) (gAp []) (He.ga K "Machine") (sp_Machine_init K) := by
  obtain ⟨fd, F, G⟩ := ok_Machine_init (P := P) (w := w) T base
  obtain ⟨mv, kb⟩ := F.kbinds0 (ps := ["self", "alphabet", "rows", "start"]) 3 ["start"] [] (fun us mv ws => us ++ (mv ++ ws)) (by simp) (fun q h => by cases h) (fun r1 r2 r3 => r1.append (r2.append r3)) (fun _ _ _ _ _ _ us mv ws l1 l2 l3 => match us, mv, ws, l1, l2, l3 with | [_, _, _], [], [_], _, _, _ => rfl)
  exact ⟨_, fd, _, T.mk_Machine, G, kb, ap_ok (dd := []) (dv := []) True.intro⟩
theorem ok_law_bag [Tabl] (T : Tx P K mg) (base : Heap) : ∃ fd, FunD K "_law_bag" "_law_bag" (defArgs s_law_bag) (defBody s_law_bag) (defScope s_law_bag) [] [] (He.ga K "_law_bag") fd ∧ FnOk P w K mg base (L2.CX P w) 1 (He.ga K "_law_bag") fd ["_law_script"] (spOf (sp_law_bag K)) := by
  obtain ⟨fd, F⟩ := T.d_law_bag
  refine ⟨fd, F, fnD (k := 0) F sc_law_bag (fun ds S K X h => len_law_bag h) ?hb (u := u_law_bag K) (fun ds S K X h hb hS => r_law_bag h hb hS)⟩
  intro cdv A outer s H E hr tk
  exact ⟨_, (dss_cons (ds_set (i := 1) sc_law_bag.nd de_int)
    (dss_cons (ds_for (passes_of rfl) rfl (di_seq (de_slQ (de_var 0) do_none (do_some de_int))) (dg_name (i := 2) sc_law_bag.nd) (dss_one (ds_set (i := 1) sc_law_bag.nd (de_bin dop_mod (de_callT dcb_int T.n_int (da_cons (de_bin dop_add (de_bin dop_add (de_bin dop_mul (de_var 1) de_int) (de_bin dop_mul (de_bin dop_mod (de_callT dcb_int T.n_int (da_cons (de_var 2) da_nil)) de_int) de_int)) de_int) da_nil)) de_int))))
    (dss_one (ds_ret (de_lstC (da_cons (de_callT dcb_list T.n_list (da_cons (de_slQ (de_var 0) do_none (do_some de_int)) da_nil)) (da_cons de_int (da_cons de_int (da_cons (de_var 1) (da_cons de_int da_nil))))))))))⟩
theorem claw_bag_1 [Tabl] (T : Tx P K mg) (base : Heap) : CalleeV P w K mg base 1 (He.ga K "_law_bag") ["_law_script"] (sp_law_bag K) [] [] := by
  obtain ⟨fd, F, G⟩ := ok_law_bag (P := P) (w := w) T base
  obtain ⟨ds, vd, b⟩ : ∃ ds, Vals [] ds ∧ Binds K fd ["_law_script"] ds := ⟨[], .nil, F.bindsN (fun _ _ _ _ _ _ us hl => match us, hl with | [_], _ => rfl)⟩
  exact ⟨fd, ds, G, F.kp, b, vd, True.intro⟩
theorem ok_law_pull [Tabl] (T : Tx P K mg) (base : Heap) : ∃ fd, FunD K "_law_pull" "_law_pull" (defArgs s_law_pull) (defBody s_law_pull) (defScope s_law_pull) [] [] (He.ga K "_law_pull") fd ∧ FnOk P w K mg base (L2.CX P w) 1 (He.ga K "_law_pull") fd ["_law_bag_here", "_law_sides"] (spOf (sp_law_pull K)) := by
  obtain ⟨fd, F⟩ := T.d_law_pull
  refine ⟨fd, F, fnD (k := 0) F sc_law_pull (fun ds S K X h => len_law_pull h) ?hb (u := u_law_pull K) (fun ds S K X h hb hS => r_law_pull h hb hS)⟩
  intro cdv A outer s H E hr tk
  exact ⟨_, (dss_cons (ds_asg (de_bin dop_add (de_ix (de_var 0) de_int) de_int) (dg_sub (de_var 0) de_int set_list set_imp))
    (dss_cons (ds_if (DW.dt (dw_and (dt_cmp (dop_eq hr.units) (de_ix (de_var 0) de_int) de_int) (dw_and1 (dt_cmp dop_lt (de_ix (de_var 0) de_int) (de_callB dcb_len T.n_len (da_cons (de_ix (de_var 0) de_int) da_nil)))))) (dss_cons (ds_set (i := 2) sc_law_pull.nd (de_ix (de_ix (de_var 0) de_int) (de_ix (de_var 0) de_int)))
    (dss_cons (ds_asg (de_bin dop_add (de_ix (de_var 0) de_int) de_int) (dg_sub (de_var 0) de_int set_list set_imp))
    (dss_one (ds_if (dt_cmp dop_ge (de_callB dcb_abs T.n_abs (da_cons (de_var 2) da_nil)) (de_bin dop_pow de_int de_int)) (dss_one (ds_asg (de_callB dcb_abs T.n_abs (da_cons (de_var 2) da_nil)) (dg_sub (de_var 0) de_int set_list set_imp))) (dss_one (ds_asg (de_bin dop_mod (de_callT dcb_int T.n_int (da_cons (de_bin dop_add (de_bin dop_add (de_bin dop_mul (de_ix (de_var 0) de_int) de_int) (de_bin dop_mul (de_bin dop_mod (de_callT dcb_int T.n_int (da_cons (de_var 2) da_nil)) de_int) de_int)) de_int) da_nil)) de_int) (dg_sub (de_var 0) de_int set_list set_imp))))))) dss_nil)
    (dss_cons (ds_if (dt_cmp dop_gt (de_ix (de_var 0) de_int) de_int) (dss_cons (ds_set (i := 3) sc_law_pull.nd (de_bin dop_mod (de_callT dcb_int T.n_int (da_cons (de_ix (de_var 0) de_int) da_nil)) (de_var 1)))
    (dss_cons (ds_asg (de_bin dop_fdiv (de_ix (de_var 0) de_int) (de_var 1)) (dg_sub (de_var 0) de_int set_list set_imp))
    (dss_one (ds_ret (de_var 3))))) dss_nil)
    (dss_cons (ds_set (i := 4) sc_law_pull.nd (de_bin dop_mod (de_callT dcb_int T.n_int (da_cons (de_bin dop_add (de_bin dop_mul (de_ix (de_var 0) de_int) (de_ix (de_var 0) de_int)) (de_bin dop_mul (de_ix (de_var 0) de_int) de_int)) da_nil)) de_int))
    (dss_cons (ds_asg (de_bin dop_mod (de_callT dcb_int T.n_int (da_cons (de_bin dop_add (de_bin dop_add (de_bin dop_mul (de_var 4) de_int) (de_bin dop_mul (de_ix (de_var 0) de_int) de_int)) de_int) da_nil)) de_int) (dg_sub (de_var 0) de_int set_list set_imp))
    (dss_one (ds_ret (de_bin dop_mod (de_callT dcb_int T.n_int (da_cons (de_bin dop_fdiv (de_ix (de_var 0) de_int) de_int) da_nil)) (de_var 1)))))))))⟩
theorem claw_pull_2 [Tabl] (T : Tx P K mg) (base : Heap) : CalleeV P w K mg base 1 (He.ga K "_law_pull") ["_law_bag_here", "_law_sides"] (sp_law_pull K) [] [] := by
  obtain ⟨fd, F, G⟩ := ok_law_pull (P := P) (w := w) T base
  obtain ⟨ds, vd, b⟩ : ∃ ds, Vals [] ds ∧ Binds K fd ["_law_bag_here", "_law_sides"] ds := ⟨[], .nil, F.bindsN (fun _ _ _ _ _ _ us hl => match us, hl with | [_, _], _ => rfl)⟩
  exact ⟨fd, ds, G, F.kp, b, vd, True.intro⟩
theorem ok_law_of [Tabl] (T : Tx P K mg) (base : Heap) : ∃ fd, FunD K "_law_of" "_law_of" (defArgs s_law_of) (defBody s_law_of) (defScope s_law_of) [] [] (He.ga K "_law_of") fd ∧ FnOk P w K mg base (L2.CX P w) 2 (He.ga K "_law_of") fd ["_law_bag_here", "_law_some"] (spOf (sp_law_of K)) := by
  have c_law_pull_2 := claw_pull_2 (P := P) (w := w) T base
  obtain ⟨fd, F⟩ := T.d_law_of
  refine ⟨fd, F, fnD (k := 1) F sc_law_of (fun ds S K X h => len_law_of h) ?hb (u := u_law_of K) (fun ds S K X h hb hS => r_law_of h hb hS)⟩
  intro cdv A outer s H E hr tk
  exact ⟨_, (dss_one (ds_ret (de_ix (de_var 1) (de_callF c_law_pull_2 hr (by first | decide | omega) T.g_law_pull tk (da_cons (de_var 0) (da_cons (de_callB dcb_len T.n_len (da_cons (de_var 1) da_nil)) da_nil))))))⟩
theorem claw_of_2 [Tabl] (T : Tx P K mg) (base : Heap) : CalleeV P w K mg base 2 (He.ga K "_law_of") ["_law_bag_here", "_law_some"] (sp_law_of K) [] [] := by
  obtain ⟨fd, F, G⟩ := ok_law_of (P := P) (w := w) T base
  obtain ⟨ds, vd, b⟩ : ∃ ds, Vals [] ds ∧ Binds K fd ["_law_bag_here", "_law_some"] ds := ⟨[], .nil, F.bindsN (fun _ _ _ _ _ _ us hl => match us, hl with | [_, _], _ => rfl)⟩
  exact ⟨fd, ds, G, F.kp, b, vd, True.intro⟩
theorem ok_law_same [Tabl] (T : Tx P K mg) (base : Heap) : ∀ n : Nat, ∃ fd, FunD K "_law_same" "_law_same" (defArgs s_law_same) (defBody s_law_same) (defScope s_law_same) [] [] (He.ga K "_law_same") fd ∧ FnOk P w K mg base (L2.CX P w) (n + 1) (He.ga K "_law_same") fd ["_law_found", "_law_due"] (spOf (sp_law_same K n))
  | 0 => by
    obtain ⟨fd, F⟩ := T.d_law_same
    exact ⟨fd, F, fn_none F sc_law_same⟩
  | n + 1 => by
    have c_law_same_2 : CalleeV P w K mg base (n + 1) (He.ga K "_law_same") ["_law_found", "_law_due"] (sp_law_same K n) [] [] := by
      obtain ⟨fd, F, G⟩ := ok_law_same T base n
      exact ⟨fd, [], G, F.kp, F.bindsN (fun _ _ _ _ _ _ us hl => match us, hl with | [_, _], _ => rfl), .nil, True.intro⟩
    obtain ⟨fd, F⟩ := T.d_law_same
    refine ⟨fd, F, fnD (k := n + 1) F sc_law_same (fun ds S K X h => len_law_same h) ?hb (u := u_law_same K (sp_law_same K n)) (fun ds S K X h hb hS => r_law_same h hb hS)⟩
    intro cdv A outer s H E hr tk
    exact ⟨_, (dss_cons (ds_if (dt_tru (de_callB dcb_isi T.n_isinstance (da_cons (de_var 1) (da_cons (de_tup (da_cons (de_ty T.n_list) (da_cons (de_ty T.n_tuple) da_nil))) da_nil)))) (dss_cons (ds_if (DW.dt (dw_or (dt_cmp (dop_ne hr.units) (de_callB dcb_isi T.n_isinstance (da_cons (de_var 0) (da_cons (de_ty T.n_list) da_nil))) (de_callB dcb_isi T.n_isinstance (da_cons (de_var 1) (da_cons (de_ty T.n_list) da_nil)))) (dw_or1 (dt_cmp (dop_ne hr.units) (de_callB dcb_isi T.n_isinstance (da_cons (de_var 0) (da_cons (de_ty T.n_tuple) da_nil))) (de_callB dcb_isi T.n_isinstance (da_cons (de_var 1) (da_cons (de_ty T.n_tuple) da_nil))))))) (dss_one (ds_ret de_bl)) dss_nil)
    (dss_one (ds_ret (de_and (de_cmp (dop_eq hr.units) (de_callB dcb_len T.n_len (da_cons (de_var 0) da_nil)) (de_callB dcb_len T.n_len (da_cons (de_var 1) da_nil))) (de_one (de_callB (dcb_all rfl) T.n_all (da_cons (de_lc (own := [("_law_a", 2), ("_law_b", 3)]) rfl sc_law_same.nd (di_zip T.n_zip (da_cons (de_var 0) (da_cons (de_var 1) da_nil))) (blkOk_by (N := N_law_same) (sc := defScope s_law_same) (by decide +kernel)) (fun _ _ _ _ _ => (dg_tupK K rfl rfl (dgs_cons (dg_name (i := 2) sc_law_same.nd) (dgs_cons (dg_name (i := 3) sc_law_same.nd) dgs_nil)))) (fun _ _ _ _ _ => dts_nil) (fun _ _ _ _ _ => (de_callF c_law_same_2 hr (by first | decide | omega) T.g_law_same takes_none5 (da_cons (de_var 2) (da_cons (de_var 3) da_nil)))) (by decide)) da_nil))))))) dss_nil)
    (dss_cons (ds_if (DW.dt (dw_or (dt_cmp dop_is (de_var 1) de_non) (dw_or1 (dt_cmp dop_is (de_var 0) de_non)))) (dss_one (ds_ret (de_and (de_cmp dop_is (de_var 1) de_non) (de_one (de_cmp dop_is (de_var 0) de_non))))) dss_nil)
    (dss_cons (ds_if (DW.dt (dw_or (dt_cmp (dop_ne hr.units) (de_callB dcb_isi T.n_isinstance (da_cons (de_var 1) (da_cons (de_ty T.n_bool) da_nil))) (de_callB dcb_isi T.n_isinstance (da_cons (de_var 0) (da_cons (de_ty T.n_bool) da_nil)))) (dw_or1 (dt_cmp (dop_ne hr.units) (de_callB dcb_isi T.n_isinstance (da_cons (de_var 1) (da_cons (de_ty T.n_int) da_nil))) (de_callB dcb_isi T.n_isinstance (da_cons (de_var 0) (da_cons (de_ty T.n_int) da_nil))))))) (dss_one (ds_ret de_bl)) dss_nil)
    (dss_one (ds_ret (de_and (de_cmp (dop_eq hr.units) (de_callB dcb_isi T.n_isinstance (da_cons (de_var 1) (da_cons (de_ty T.n_str) da_nil))) (de_callB dcb_isi T.n_isinstance (da_cons (de_var 0) (da_cons (de_ty T.n_str) da_nil)))) (de_one (de_cmp (dop_eq hr.units) (de_var 0) (de_var 1)))))))))⟩
theorem claw_same_2 [Tabl] (T : Tx P K mg) (base : Heap) : CalleeV P w K mg base 7 (He.ga K "_law_same") ["_law_found", "_law_due"] (sp_law_same K 6) [] [] := by
  obtain ⟨fd, F, G⟩ := ok_law_same T base 6
  exact ⟨fd, [], G, F.kp, F.bindsN (fun _ _ _ _ _ _ us hl => match us, hl with | [_, _], _ => rfl), .nil, True.intro⟩
theorem hot_law_field (T : Tx P K mg) {tb : Tabl} {X : Cx} (hP : X.prog = P) (hK : X.K = K) {a C d : Addr} {oe : Obj} (hxf : XfC K C) (hfl : ∀ f ∈ flds, PySem.W.findIn K (.ref C) f = some none) (hz : Zc (.ref C) (some d) oe) (hf : ∃ vs : Array Value, oe.data = .fields vs) (cdv : Value) (s : Shared) (H : Hp) {kr : Nat} (hr : L2H.RoomH kr (X.A.deeper (PyProof.Rows.envOfC "_law_field" (defScope s_law_field) s.heap.objs.size (He.ga K "_law_field") cdv))) :
    ∃ t, DSs (L2H.cxH (L2.CX X.prog X.w) X.prog X.w X.K X.mg X.base N_law_field "_law_field" (defScope s_law_field) (He.ga K "_law_field") cdv X.A X.stack s H (fun _ _ _ => False) (a, oe)) WFF (defBody s_law_field) t (u_law_field a d) := by
  subst hP; subst hK
  exact ⟨_, (dss_cons (ds_if (dt_cmp dop_in (de_xf hxf (hfl "code" (by decide)) List.mem_cons_self hz hf (de_var 0)) (de_tup (da_cons de_str (da_cons de_str (da_cons de_str (da_cons de_str (da_cons de_str (da_cons de_str da_nil)))))))) (dss_one (ds_ret (de_tup (da_cons (de_xf hxf (hfl "given" (by decide)) List.mem_cons_self hz hf (de_var 0)) da_nil)))) dss_nil)
    (dss_cons (ds_if (dt_cmp dop_in (de_xf hxf (hfl "code" (by decide)) List.mem_cons_self hz hf (de_var 0)) (de_tup (da_cons de_str (da_cons de_str da_nil)))) (dss_one (ds_ret (de_tup (da_cons (de_xf hxf (hfl "given" (by decide)) List.mem_cons_self hz hf (de_var 0)) da_nil)))) dss_nil)
    (dss_cons (ds_if (dt_cmp dop_in (de_xf hxf (hfl "code" (by decide)) List.mem_cons_self hz hf (de_var 0)) (de_tup (da_cons de_str (da_cons de_str da_nil)))) (dss_one (ds_ret (de_tup (da_cons (de_xf hxf (hfl "at" (by decide)) List.mem_cons_self hz hf (de_var 0)) da_nil)))) dss_nil)
    (dss_cons (ds_if (dt_cmp dop_in (de_xf hxf (hfl "code" (by decide)) List.mem_cons_self hz hf (de_var 0)) (de_tup (da_cons de_str (da_cons de_str da_nil)))) (dss_one (ds_ret (de_tup (da_cons (de_xf hxf (hfl "row" (by decide)) List.mem_cons_self hz hf (de_var 0)) da_nil)))) dss_nil)
    (dss_cons (ds_if (dt_cmp dop_in (de_xf hxf (hfl "code" (by decide)) List.mem_cons_self hz hf (de_var 0)) (de_tup (da_cons de_str (da_cons de_str da_nil)))) (dss_one (ds_ret (de_tup (da_cons (de_xf hxf (hfl "name" (by decide)) List.mem_cons_self hz hf (de_var 0)) da_nil)))) dss_nil)
    (dss_one (ds_ret (de_if (dt_cmp (dop_eq (by have := hr.un; show (X.A.deeper _).units + 64 < cLine; omega)) (de_xf hxf (hfl "code" (by decide)) List.mem_cons_self hz hf (de_var 0)) de_str) (de_tup (da_cons (de_xf hxf (hfl "subject" (by decide)) List.mem_cons_self hz hf (de_var 0)) (da_cons (de_xf hxf (hfl "most" (by decide)) List.mem_cons_self hz hf (de_var 0)) da_nil))) (de_tup da_nil)))))))))⟩
theorem ok_law_signs [Tabl] (T : Tx P K mg) (base : Heap) : ∃ fd, FunD K "_law_signs" "_law_signs" (defArgs s_law_signs) (defBody s_law_signs) (defScope s_law_signs) [] [] (He.ga K "_law_signs") fd ∧ FnOk P w K mg base (L2.CX P w) 3 (He.ga K "_law_signs") fd ["_law_bag_here"] (spOf (sp_law_signs K)) := by
  have c_law_of_2 := claw_of_2 (P := P) (w := w) T base
  have c_law_pull_2 := claw_pull_2 (P := P) (w := w) T base
  obtain ⟨fd, F⟩ := T.d_law_signs
  refine ⟨fd, F, fnD (k := 2) F sc_law_signs (fun ds S K X h => len_law_signs h) ?hb (u := u_law_signs K) (fun ds S K X h hb hS => r_law_signs h hb hS)⟩
  intro cdv A outer s H E hr tk
  exact ⟨_, (dss_cons (ds_set (i := 1) sc_law_signs.nd (de_bin dop_add de_int (de_callF c_law_of_2 hr (by first | decide | omega) T.g_law_of tk (da_cons (de_var 0) (da_cons (de_lst (da_cons de_int (da_cons de_int (da_cons de_int (da_cons de_int (da_cons de_int (da_cons de_int da_nil))))))) da_nil)))))
    (dss_cons (ds_set (i := 2) sc_law_signs.nd (de_lstC da_nil))
    (dss_cons (ds_for (passes_of rfl) rfl (di_range1 T.n_range (da_cons (de_var 1) da_nil)) (dg_name (i := 3) sc_law_signs.nd) (dss_cons (ds_setLc (own := [("_law_sign", 5)]) (i := 4) rfl sc_law_signs.nd (di_seq de_str) (blkOk_by (N := N_law_signs) (sc := defScope s_law_signs) (by decide +kernel)) (fun _ _ _ _ _ => (dg_name (i := 5) sc_law_signs.nd)) (fun _ _ _ _ _ => (dts_one (dt_cmp (dop_notinK K rfl) (de_var 5) (de_var 2)))) (fun _ _ _ _ _ => (de_var 5)) (by decide))
    (dss_one (ds_expr (de_bm PySem.F.plainAttrs_list PySem.F.slot_list_append PySem.F.type_list_append dmt_append (de_var 2) (da_cons (de_ix (de_var 4) (de_callF c_law_of_2 hr (by first | decide | omega) T.g_law_of tk (da_cons (de_var 0) (da_cons (de_lst (da_cons de_int (da_cons de_int (da_cons de_int (da_cons (de_callF c_law_pull_2 hr (by first | decide | omega) T.g_law_pull tk (da_cons (de_var 0) (da_cons (de_callB dcb_len T.n_len (da_cons (de_var 4) da_nil)) da_nil))) da_nil))))) da_nil)))) da_nil))))))
    (dss_one (ds_ret (de_bm PySem.F.plainAttrs_str PySem.F.slot_str_join PySem.F.type_str_join dmt_join de_str (da_cons (de_callB dcb_sortedS T.n_sorted (da_cons (de_var 2) da_nil)) da_nil)))))))⟩
theorem claw_signs_1 [Tabl] (T : Tx P K mg) (base : Heap) : CalleeV P w K mg base 3 (He.ga K "_law_signs") ["_law_bag_here"] (sp_law_signs K) [] [] := by
  obtain ⟨fd, F, G⟩ := ok_law_signs (P := P) (w := w) T base
  obtain ⟨ds, vd, b⟩ : ∃ ds, Vals [] ds ∧ Binds K fd ["_law_bag_here"] ds := ⟨[], .nil, F.bindsN (fun _ _ _ _ _ _ us hl => match us, hl with | [_], _ => rfl)⟩
  exact ⟨fd, ds, G, F.kp, b, vd, True.intro⟩
theorem ok_law_goals [Tabl] (T : Tx P K mg) (base : Heap) : ∃ fd, FunD K "_law_goals" "_law_goals" (defArgs s_law_goals) (defBody s_law_goals) (defScope s_law_goals) [] [] (He.ga K "_law_goals") fd ∧ FnOk P w K mg base (L2.CX P w) 2 (He.ga K "_law_goals") fd ["_law_bag_here", "_law_many", "_law_width"] (spOf (sp_law_goals K)) := by
  have c_law_pull_2 := claw_pull_2 (P := P) (w := w) T base
  obtain ⟨fd, F⟩ := T.d_law_goals
  refine ⟨fd, F, fnD (k := 1) F sc_law_goals (fun ds S K X h => len_law_goals h) ?hb (u := u_law_goals K) (fun ds S K X h hb hS => r_law_goals h hb hS)⟩
  intro cdv A outer s H E hr tk
  exact ⟨_, (dss_one (ds_ret (de_lc (own := [("_law_at", 3)]) rfl sc_law_goals.nd (di_range1 T.n_range (da_cons (de_var 1) da_nil)) (blkOk_by (N := N_law_goals) (sc := defScope s_law_goals) (by decide +kernel)) (fun _ _ _ _ _ => (dg_name (i := 3) sc_law_goals.nd)) (fun _ _ _ _ _ => dts_nil) (fun _ _ _ _ _ => (de_callT (dcb_tupleK K rfl) T.n_tuple (da_cons (de_lc (own := [("_law_k", 4)]) rfl sc_law_goals.nd (di_range1 T.n_range (da_cons (de_var 2) da_nil)) (blkOk_by (by kernel_rfl)) (fun _ _ _ _ _ => (dg_name (i := 4) sc_law_goals.nd)) (fun _ _ _ _ _ => dts_nil) (fun _ _ _ _ _ => (de_callF c_law_pull_2 hr (by first | decide | omega) T.g_law_pull takes_none5 (da_cons (de_var 0) (da_cons (de_var 1) da_nil)))) (by decide)) da_nil))) (by decide))))⟩
theorem claw_goals_3 [Tabl] (T : Tx P K mg) (base : Heap) : CalleeV P w K mg base 2 (He.ga K "_law_goals") ["_law_bag_here", "_law_many", "_law_width"] (sp_law_goals K) [] [] := by
  obtain ⟨fd, F, G⟩ := ok_law_goals (P := P) (w := w) T base
  obtain ⟨ds, vd, b⟩ : ∃ ds, Vals [] ds ∧ Binds K fd ["_law_bag_here", "_law_many", "_law_width"] ds := ⟨[], .nil, F.bindsN (fun _ _ _ _ _ _ us hl => match us, hl with | [_, _, _], _ => rfl)⟩
  exact ⟨fd, ds, G, F.kp, b, vd, True.intro⟩
theorem ok_law_reach [Tabl] (T : Tx P K mg) (base : Heap) : ∃ fd, FunD K "_law_reach" "_law_reach" (defArgs s_law_reach) (defBody s_law_reach) (defScope s_law_reach) [] [] (He.ga K "_law_reach") fd ∧ FnOk P w K mg base (L2.CX P w) 1 (He.ga K "_law_reach") fd ["_law_goals_here", "_law_signs_here", "_law_at"] (spOf (sp_law_reach K)) := by
  obtain ⟨fd, F⟩ := T.d_law_reach
  refine ⟨fd, F, fnD (k := 0) F sc_law_reach (fun ds S K X h => len_law_reach h) ?hb (u := u_law_reach K) (fun ds S K X h hb hS => r_law_reach h hb hS)⟩
  intro cdv A outer s H E hr tk
  exact ⟨_, (dss_cons (ds_par (i := 3) (j := 4) rfl sc_law_reach.nd (da_cons (de_lstC (da_cons (de_tup (da_cons (de_var 2) (da_cons de_str da_nil))) da_nil)) (da_cons de_int da_nil)))
    (dss_cons (ds_while (passes_of rfl) (dt_cmp dop_lt (de_var 4) (de_callB dcb_len T.n_len (da_cons (de_var 3) da_nil))) (dss_cons (ds_asg (de_ix (de_var 3) (de_var 4)) (dg_tup rfl (dgs_cons (dg_name (i := 5) sc_law_reach.nd) (dgs_cons (dg_name (i := 6) sc_law_reach.nd) dgs_nil))))
    (dss_cons (ds_set (i := 4) sc_law_reach.nd (de_bin dop_add (de_var 4) de_int))
    (dss_one (ds_for (passes_of rfl) rfl (di_range1 T.n_range (da_cons (de_callB dcb_len T.n_len (da_cons (de_var 1) da_nil)) da_nil)) (dg_name (i := 7) sc_law_reach.nd) (dss_one (ds_if (dt_cmp dop_notin (de_ix (de_ix (de_var 0) (de_var 5)) (de_var 7)) (de_lc (own := [("_law_one", 8), ("_law_late", 9)]) rfl sc_law_reach.nd (di_seq (de_var 3)) (blkOk_by (N := N_law_reach) (sc := defScope s_law_reach) (by decide +kernel)) (fun _ _ _ _ _ => (dg_tupK K rfl rfl (dgs_cons (dg_name (i := 8) sc_law_reach.nd) (dgs_cons (dg_name (i := 9) sc_law_reach.nd) dgs_nil)))) (fun _ _ _ _ _ => dts_nil) (fun _ _ _ _ _ => (de_var 8)) (by decide))) (dss_one (ds_expr (de_bm PySem.F.plainAttrs_list PySem.F.slot_list_append PySem.F.type_list_append dmt_append (de_var 3) (da_cons (de_tup (da_cons (de_ix (de_ix (de_var 0) (de_var 5)) (de_var 7)) (da_cons (de_bin dop_add (de_var 6) (de_ix (de_var 1) (de_var 7))) da_nil))) da_nil)))) dss_nil)))))))
    (dss_one (ds_ret (de_var 3)))))⟩
theorem claw_reach_3 [Tabl] (T : Tx P K mg) (base : Heap) : CalleeV P w K mg base 1 (He.ga K "_law_reach") ["_law_goals_here", "_law_signs_here", "_law_at"] (sp_law_reach K) [] [] := by
  obtain ⟨fd, F, G⟩ := ok_law_reach (P := P) (w := w) T base
  obtain ⟨ds, vd, b⟩ : ∃ ds, Vals [] ds ∧ Binds K fd ["_law_goals_here", "_law_signs_here", "_law_at"] ds := ⟨[], .nil, F.bindsN (fun _ _ _ _ _ _ us hl => match us, hl with | [_, _, _], _ => rfl)⟩
  exact ⟨fd, ds, G, F.kp, b, vd, True.intro⟩
theorem ok_law_text [Tabl] (T : Tx P K mg) (base : Heap) : ∃ fd, FunD K "_law_text" "_law_text" (defArgs s_law_text) (defBody s_law_text) (defScope s_law_text) [] [] (He.ga K "_law_text") fd ∧ FnOk P w K mg base (L2.CX P w) 3 (He.ga K "_law_text") fd ["_law_bag_here", "_law_signs_here", "_law_size"] (spOf (sp_law_text K)) := by
  have c_law_of_2 := claw_of_2 (P := P) (w := w) T base
  obtain ⟨fd, F⟩ := T.d_law_text
  refine ⟨fd, F, fnD (k := 2) F sc_law_text (fun ds S K X h => len_law_text h) ?hb (u := u_law_text K) (fun ds S K X h hb hS => r_law_text h hb hS)⟩
  intro cdv A outer s H E hr tk
  exact ⟨_, (dss_one (ds_ret (de_bm PySem.F.plainAttrs_str PySem.F.slot_str_join PySem.F.type_str_join dmt_join de_str (da_cons (de_lc (own := [("_law_k", 3)]) rfl sc_law_text.nd (di_range1 T.n_range (da_cons (de_var 2) da_nil)) (blkOk_by (N := N_law_text) (sc := defScope s_law_text) (by decide +kernel)) (fun _ _ _ _ _ => (dg_name (i := 3) sc_law_text.nd)) (fun _ _ _ _ _ => dts_nil) (fun _ _ _ _ _ => (de_callF c_law_of_2 hr (by first | decide | omega) T.g_law_of takes_none5 (da_cons (de_var 0) (da_cons (de_var 1) da_nil)))) (by decide)) da_nil))))⟩
theorem claw_text_3 [Tabl] (T : Tx P K mg) (base : Heap) : CalleeV P w K mg base 3 (He.ga K "_law_text") ["_law_bag_here", "_law_signs_here", "_law_size"] (sp_law_text K) [] [] := by
  obtain ⟨fd, F, G⟩ := ok_law_text (P := P) (w := w) T base
  obtain ⟨ds, vd, b⟩ : ∃ ds, Vals [] ds ∧ Binds K fd ["_law_bag_here", "_law_signs_here", "_law_size"] ds := ⟨[], .nil, F.bindsN (fun _ _ _ _ _ _ us hl => match us, hl with | [_, _, _], _ => rfl)⟩
  exact ⟨fd, ds, G, F.kp, b, vd, True.intro⟩
theorem ok_law_go [Tabl] (T : Tx P K mg) (base : Heap) : ∃ fd, FunD K "_law_go" "_law_go" (defArgs s_law_go) (defBody s_law_go) (defScope s_law_go) [] [] (He.ga K "_law_go") fd ∧ FnOk P w K mg base (L2.CX P w) 1 (He.ga K "_law_go") fd ["_law_goals_here", "_law_signs_here", "_law_at", "_law_text_here"] (spOf (sp_law_go K)) := by
  obtain ⟨fd, F⟩ := T.d_law_go
  refine ⟨fd, F, fnD (k := 0) F sc_law_go (fun ds S K X h => len_law_go h) ?hb (u := u_law_go K) (fun ds S K X h hb hS => r_law_go h hb hS)⟩
  intro cdv A outer s H E hr tk
  exact ⟨_, (dss_cons (ds_for (passes_of rfl) rfl (di_seq (de_var 3)) (dg_name (i := 4) sc_law_go.nd) (dss_one (ds_set (i := 2) sc_law_go.nd (de_ix (de_ix (de_var 0) (de_var 2)) (de_bm PySem.F.plainAttrs_str PySem.F.slot_str_index PySem.F.type_str_index dmt_sindex (de_var 1) (da_cons (de_var 4) da_nil))))))
    (dss_one (ds_ret (de_var 2))))⟩
theorem claw_go_4 [Tabl] (T : Tx P K mg) (base : Heap) : CalleeV P w K mg base 1 (He.ga K "_law_go") ["_law_goals_here", "_law_signs_here", "_law_at", "_law_text_here"] (sp_law_go K) [] [] := by
  obtain ⟨fd, F, G⟩ := ok_law_go (P := P) (w := w) T base
  obtain ⟨ds, vd, b⟩ : ∃ ds, Vals [] ds ∧ Binds K fd ["_law_goals_here", "_law_signs_here", "_law_at", "_law_text_here"] ds := ⟨[], .nil, F.bindsN (fun _ _ _ _ _ _ us hl => match us, hl with | [_, _, _, _], _ => rfl)⟩
  exact ⟨fd, ds, G, F.kp, b, vd, True.intro⟩
theorem ok_law_got (T : Tx P K mg) (base : Heap) : ∃ fd, FunD K "_law_got" "_law_got" (defArgs s_law_got) (defBody s_law_got) (defScope s_law_got) [] [] (He.ga K "_law_got") fd ∧ ∀ cs ow B, CelsOk cs → TabOk (tbs K) cs ow 7 P w K mg base B → FnOk P w K mg base (L2.CX P w) 9 (He.ga K "_law_got") fd ["_law_ask"] (@spOf (wth (tbs K) cs ow) (sp_law_got B (mtC errs K))) := by
  obtain ⟨fd, F⟩ := T.d_law_got
  obtain ⟨fdh, Fh⟩ := T.d_law_field
  refine ⟨fd, F, fun cs ow B co hB => ?_⟩
  letI : Tabl := wth (tbs K) cs ow
  refine fnD (k := 8) F sc_law_got (fun ds S K X h => len_law_got h) ?hb (u := u_law_got B (mtC errs K)) (fun ds S K X h hb hS => r_law_got h)
  intro cdv A outer s H E hr tk
  refine ⟨_, dss_cons (ds_set (i := 1) sc_law_got.nd (de_tup (da_cons de_str (da_cons de_non da_nil)))) (dss_cons (ds_try3 (n := "_law_e") (i := 2) rfl rfl sc_law_got.nd rfl rfl ⟨rfl, by decide, .inl T.g_AheadError⟩ ⟨rfl, by decide, .inl T.g_Missing⟩ ⟨rfl, by decide, .inl T.g_NothingLeft⟩ (fun C ⟨x, hx, e⟩ => by rw [e]; exact T.em x hx) ?b ?s) (dss_one (ds_ret (de_var 1))))⟩
  case b =>
    intro W pn xe tk2 po
    exact ⟨_, dss_one (ds_set (i := 1) sc_law_got.nd (de_tup (da_cons de_str (da_cons (de_act (k := 7) co hB tk2 (hr.mono (by decide)) rfl (.inl rfl)) da_nil))))⟩
  case s =>
    rintro a oe d C pn ⟨x, hx, rfl⟩ hz hf
    have hxf := xfB_ok (T.fi x (List.mem_append_left _ hx)).1
    have hfl := (T.fi x (List.mem_append_left _ hx)).2
    exact ⟨_, dss_one (ds_set (i := 1) sc_law_got.nd (de_tup (da_cons (de_xf hxf (hfl "code" (by decide)) List.mem_cons_self hz hf (de_var 2)) (da_cons (de_hot (k := 0) Fh sc_law_field (Fh.bindsN (fun _ _ _ _ _ _ us hl => match us, hl with | [_], _ => rfl)) List.mem_cons_self (show L2H.RoomH 1 _ from ⟨(hr.mono (show 1 ≤ _ by decide)).dp, (hr.mono (show 1 ≤ _ by decide)).un⟩) rfl T.g_law_field (fun cdv s H hrh => hot_law_field T rfl rfl hxf hfl hz hf cdv s H hrh) (da_cons (de_var 2) da_nil)) da_nil))))⟩
theorem gv0_law_got (T : Tx P K mg) (base : Heap) : ∃ fd, (∀ cs ow B, CelsOk cs → TabOk (tbs K) cs ow 7 P w K mg base B → FnOk P w K mg base (L2.CX P w) 9 (He.ga K "_law_got") fd ["_law_ask"] (@spOf (wth (tbs K) cs ow) (sp_law_got B (mtC errs K)))) ∧ PySem.W.keepIn K (.ref (He.ga K "_law_got")) = true ∧ Binds K fd ["_law_ask"] [] := by
  obtain ⟨fd, F, G⟩ := ok_law_got (P := P) (w := w) T base
  exact ⟨fd, G, F.kp, F.bindsN (fun _ _ _ _ _ _ us hl => match us, hl with | [_], _ => rfl)⟩
theorem gv0_law_all_got (T : Tx P K mg) (base : Heap) : ∃ fd, (∀ cs ow B, CelsOk cs → TabOk (tbs K) cs ow 7 P w K mg base B → FnOk P w K mg base (L2.CX P w) 10 (He.ga K "_law_all_got") fd ["_law_asks"] (@spOf (wth (tbs K) cs ow) (sp_law_all_got B (mtC errs K)))) ∧ PySem.W.keepIn K (.ref (He.ga K "_law_all_got")) = true ∧ Binds K fd ["_law_asks"] [] := by
  obtain ⟨fd, F⟩ := T.d_law_all_got
  refine ⟨fd, fun cs ow B co hB => ?_, F.kp, F.bindsN (fun _ _ _ _ _ _ us hl => match us, hl with | [_], _ => rfl)⟩
  letI : Tabl := wth (tbs K) cs ow
  have c_law_got_1 : CalleeV P w K mg base 9 (He.ga K "_law_got") ["_law_ask"] (sp_law_got B (mtC errs K)) [] [] := by
    obtain ⟨fdg, Gg, kg, bg⟩ := gv0_law_got (P := P) (w := w) T base
    exact ⟨fdg, [], Gg cs ow B co hB, kg, bg, .nil, True.intro⟩
  refine fnD (k := 9) F sc_law_all_got (fun ds S K X h => len_law_all_got h) ?hb (u := u_law_all_got B (mtC errs K)) (fun ds S K X h hb hS => r_law_all_got h)
  intro cdv A outer s H E hr tk
  exact ⟨_, dss_one (ds_ret (de_lc (own := [("_law_ask", 1)]) rfl sc_law_all_got.nd (di_seq (de_var 0)) (blkOk_by (N := N_law_all_got) (sc := defScope s_law_all_got) (by decide +kernel)) (fun _ _ _ _ _ => (dg_name (i := 1) sc_law_all_got.nd)) (fun _ _ _ _ _ => dts_nil) (fun _ _ _ _ _ => (de_callF c_law_got_1 hr (by first | decide | omega) T.g_law_got takes_none5 (da_cons (de_var 1) da_nil))) (by decide)))⟩
theorem ok_law (T : Tx P K mg) (base : Heap) (hTB0 : LamX.TabB base mg (He.cT K ("law", none)).1 (He.cT K ("law", none)).2) : ∃ fd, FunD K "law" "law" (defArgs s_law) (defBody s_law) (defScope s_law) [] [] (He.ga K "law") fd ∧ FnOk P w K mg base (L2.CX P w) 11 (He.ga K "law") fd ["_law_script"] (@spOf (bas (tbs K)) (sp_law K)) := by
  letI : Tabl := bas (tbs K)
  have c_law_bag_1 := claw_bag_1 (P := P) (w := w) T base
  have c_law_signs_1 := claw_signs_1 (P := P) (w := w) T base
  have c_law_pull_2 := claw_pull_2 (P := P) (w := w) T base
  have c_law_goals_3 := claw_goals_3 (P := P) (w := w) T base
  have c_law_reach_3 := claw_reach_3 (P := P) (w := w) T base
  have c_law_of_2 := claw_of_2 (P := P) (w := w) T base
  have c_law_text_3 := claw_text_3 (P := P) (w := w) T base
  have c_law_go_4 := claw_go_4 (P := P) (w := w) T base
  have c_image_3 := cimage_3 (P := P) (w := w) T base
  have c_turn_3 := cturn_3 (P := P) (w := w) T base
  have c_law_same_2 := claw_same_2 (P := P) (w := w) T base
  have mw_Machine_3_start := tw_Machine_3_start (P := P) (w := w) T base
  obtain ⟨fd_law_all_got, gv_law_all_got, gk_law_all_got, gb_law_all_got⟩ := gv0_law_all_got (P := P) (w := w) T base
  have tb_one : ∀ p ∈ tbs K, p.1 = (He.cT K ("law", none)).2 → p.2 = "law.<locals>.<lambda>" := tb_only
  obtain ⟨fd, F⟩ := T.d_law
  refine ⟨fd, F, fnDL (k := 10) F sc_law (fun ds S K X h => len_law h) ?hb (u := u_law K) (fun cl ds S K X h hb hS => r_law h hb hS)⟩
  intro c A outer s H E hc hr tk
  obtain rfl : (He.cT K ("law", none)).1 = c := hc ("law", none) rfl
  have hTB := hTB0
  have hco : ((cxOf (L2.CX P w) P w K mg base N_law "law" (defScope s_law) (He.ga K "law") (.ref (He.cT K ("law", none)).1) A outer s H E)).env.code = .ref (He.cT K ("law", none)).1 := rfl
  have ro_law_0 : RowOk (tbs K) 7 (cxOf (L2.CX P w) P w K mg base N_law "law" (defScope s_law) (He.ga K "law") (.ref (He.cT K ("law", none)).1) A outer s H E) (row_law_0 K) := by
    refine ⟨lk_law_0, rfl, lf_law_0, lt_law_0.free, fun A1 outer1 s1 H1 E1 f1 c1 hr => ?_⟩
    have tk : Takes (ncx (L2.CX P w) P w K mg base ["_law_made", "_law_some_set", "_law_text_here"] (nfOf lam_law_0 ((cxOf (L2.CX P w) P w K mg base N_law "law" (defScope s_law) (He.ga K "law") (.ref (He.cT K ("law", none)).1) A outer s H E)).env.cells c1) f1 A1 outer1 s1 H1 E1) (WE0 E1) := takes_of rfl rfl rfl rfl
    exact ⟨_, (de_callF (X := ncx (L2.CX P w) P w K mg base ["_law_made", "_law_some_set", "_law_text_here"] (nfOf lam_law_0 ((cxOf (L2.CX P w) P w K mg base N_law "law" (defScope s_law) (He.ga K "law") (.ref (He.cT K ("law", none)).1) A outer s H E)).env.cells c1) f1 A1 outer1 s1 H1 E1) c_image_3 hr (by first | decide | omega) T.g_image tk (da_cons (de_var 0) (da_cons (de_var 1) (da_cons (de_var 2) da_nil))))⟩
  have ro_law_1 : RowOk (tbs K) 7 (cxOf (L2.CX P w) P w K mg base N_law "law" (defScope s_law) (He.ga K "law") (.ref (He.cT K ("law", none)).1) A outer s H E) (row_law_1 K) := by
    refine ⟨lk_law_1, rfl, lf_law_1, lt_law_1.free, fun A1 outer1 s1 H1 E1 f1 c1 hr => ?_⟩
    have tk : Takes (ncx (L2.CX P w) P w K mg base ["_law_a", "_law_made", "_law_some_set", "_law_text_here"] (nfOf lam_law_1 ((cxOf (L2.CX P w) P w K mg base N_law "law" (defScope s_law) (He.ga K "law") (.ref (He.cT K ("law", none)).1) A outer s H E)).env.cells c1) f1 A1 outer1 s1 H1 E1) (WE0 E1) := takes_of rfl rfl rfl rfl
    exact ⟨_, (de_callF (X := ncx (L2.CX P w) P w K mg base ["_law_a", "_law_made", "_law_some_set", "_law_text_here"] (nfOf lam_law_1 ((cxOf (L2.CX P w) P w K mg base N_law "law" (defScope s_law) (He.ga K "law") (.ref (He.cT K ("law", none)).1) A outer s H E)).env.cells c1) f1 A1 outer1 s1 H1 E1) c_turn_3 hr (by first | decide | omega) T.g_turn tk (da_cons (de_var 1) (da_cons (de_var 2) (da_cons (de_var 3) da_nil))))⟩
  have ro_law_2 : RowOk (tbs K) 7 (cxOf (L2.CX P w) P w K mg base N_law "law" (defScope s_law) (He.ga K "law") (.ref (He.cT K ("law", none)).1) A outer s H E) (row_law_2 K) := by
    refine ⟨lk_law_2, rfl, lf_law_2, lt_law_2.free, fun A1 outer1 s1 H1 E1 f1 c1 hr => ?_⟩
    have tk : Takes (ncx (L2.CX P w) P w K mg base ["_law_made", "_law_odd", "_law_strange"] (nfOf lam_law_2 ((cxOf (L2.CX P w) P w K mg base N_law "law" (defScope s_law) (He.ga K "law") (.ref (He.cT K ("law", none)).1) A outer s H E)).env.cells c1) f1 A1 outer1 s1 H1 E1) (WE0 E1) := takes_of rfl rfl rfl rfl
    exact ⟨_, (de_callF (X := ncx (L2.CX P w) P w K mg base ["_law_made", "_law_odd", "_law_strange"] (nfOf lam_law_2 ((cxOf (L2.CX P w) P w K mg base N_law "law" (defScope s_law) (He.ga K "law") (.ref (He.cT K ("law", none)).1) A outer s H E)).env.cells c1) f1 A1 outer1 s1 H1 E1) c_image_3 hr (by first | decide | omega) T.g_image tk (da_cons (de_var 0) (da_cons (de_var 1) (da_cons (de_var 2) da_nil))))⟩
  have ro_law_3 : RowOk (tbs K) 7 (cxOf (L2.CX P w) P w K mg base N_law "law" (defScope s_law) (He.ga K "law") (.ref (He.cT K ("law", none)).1) A outer s H E) (row_law_3 K) := by
    refine ⟨lk_law_3, rfl, lf_law_3, lt_law_3.free, fun A1 outer1 s1 H1 E1 f1 c1 hr => ?_⟩
    have tk : Takes (ncx (L2.CX P w) P w K mg base ["_law_a", "_law_made", "_law_some_set", "_law_strange"] (nfOf lam_law_3 ((cxOf (L2.CX P w) P w K mg base N_law "law" (defScope s_law) (He.ga K "law") (.ref (He.cT K ("law", none)).1) A outer s H E)).env.cells c1) f1 A1 outer1 s1 H1 E1) (WE0 E1) := takes_of rfl rfl rfl rfl
    exact ⟨_, (de_callF (X := ncx (L2.CX P w) P w K mg base ["_law_a", "_law_made", "_law_some_set", "_law_strange"] (nfOf lam_law_3 ((cxOf (L2.CX P w) P w K mg base N_law "law" (defScope s_law) (He.ga K "law") (.ref (He.cT K ("law", none)).1) A outer s H E)).env.cells c1) f1 A1 outer1 s1 H1 E1) c_turn_3 hr (by first | decide | omega) T.g_turn tk (da_cons (de_var 1) (da_cons (de_var 2) (da_cons (de_var 3) da_nil))))⟩
  have hF : FrameTab (tbs K) 7 (cxOf (L2.CX P w) P w K mg base N_law "law" (defScope s_law) (He.ga K "law") (.ref (He.cT K ("law", none)).1) A outer s H E) (rowsTab (cellsFrom (s.heap.objs.size + 1) (defScope s_law).names []) (rows_law K)) := frame_rows rfl (rows_cons ro_law_0 (rows_cons ro_law_1 (rows_cons ro_law_2 (rows_cons ro_law_3 (rows_nil)))))
  exact ⟨_, (dss_cons (ds_set (i := 1) sc_law.nd (de_callF c_law_bag_1 hr (by first | decide | omega) T.g_law_bag tk (da_cons (de_var 0) da_nil)))
    (dss_cons (ds_for (passes_of rfl) rfl (di_range1 T.n_range (da_cons de_int da_nil)) (dg_name (i := 2) sc_law.nd) (dss_cons (ds_set (i := 3) sc_law.nd (de_callF c_law_signs_1 hr (by first | decide | omega) T.g_law_signs tk (da_cons (de_var 1) da_nil)))
    (dss_cons (ds_set (i := 4) sc_law.nd (de_bin dop_add de_int (de_callF c_law_pull_2 hr (by first | decide | omega) T.g_law_pull tk (da_cons (de_var 1) (da_cons de_int da_nil)))))
    (dss_cons (ds_asg (de_tup (da_cons (de_callF c_law_goals_3 hr (by first | decide | omega) T.g_law_goals tk (da_cons (de_var 1) (da_cons (de_var 4) (da_cons (de_callB dcb_len T.n_len (da_cons (de_var 3) da_nil)) da_nil)))) (da_cons (de_callF c_law_pull_2 hr (by first | decide | omega) T.g_law_pull tk (da_cons (de_var 1) (da_cons (de_var 4) da_nil))) da_nil))) (dg_tup rfl (dgs_cons (dg_name (i := 5) sc_law.nd) (dgs_cons (dg_name (i := 6) sc_law.nd) dgs_nil))))
    (dss_cons (ds_set (i := 7) sc_law.nd (de_makeK (n := 2) (ks := ["start"]) mw_Machine_3_start gAp_c gApV_c hr (by first | decide | omega) T.g_Machine tk (da_cons (de_var 3) (da_cons (de_var 5) da_nil)) (dk_cons (de_var 6) dk_nil)))
    (dss_cons (ds_set (i := 8) sc_law.nd (de_callB dcb_sortI T.n_sorted (da_cons (de_lc (own := [("_law_at", 18), ("_law_text_here", 10)]) rfl sc_law.nd (di_seq (de_callF c_law_reach_3 hr (by first | decide | omega) T.g_law_reach tk (da_cons (de_var 5) (da_cons (de_var 3) (da_cons (de_var 6) da_nil))))) (blkOk_by (N := N_law) (sc := defScope s_law) (by decide +kernel)) (fun _ _ _ _ _ => (dg_tupK K rfl rfl (dgs_cons (dg_name (i := 18) sc_law.nd) (dgs_cons (dg_name (i := 10) sc_law.nd) dgs_nil)))) (fun _ _ _ _ _ => dts_nil) (fun _ _ _ _ _ => (de_var 18)) (by decide)) da_nil)))
    (dss_cons (ds_set (i := 9) sc_law.nd (de_callT dcb_tuple T.n_tuple (da_cons (de_lc (own := [("_law_at", 18)]) rfl sc_law.nd (di_seq (de_var 8)) (blkOk_by (N := N_law) (sc := defScope s_law) (by decide +kernel)) (fun _ _ _ _ _ => (dg_name (i := 18) sc_law.nd)) (fun _ _ _ _ _ => (dts_one (dt_cmp (dop_eqK K rfl hr.units) (de_callF c_law_pull_2 hr (by first | decide | omega) T.g_law_pull takes_none5 (da_cons (de_var 1) (da_cons de_int da_nil))) de_int))) (fun _ _ _ _ _ => (de_var 18)) (by decide)) da_nil)))
    (dss_cons (ds_set (i := 9) sc_law.nd (de_if (dt_cmp (dop_ne hr.units) (de_var 9) (de_tup da_nil)) (de_var 9) (de_tup (da_cons (de_ix (de_var 8) de_int) da_nil))))
    (dss_cons (ds_set (i := 10) sc_law.nd (de_callF c_law_text_3 hr (by first | decide | omega) T.g_law_text tk (da_cons (de_var 1) (da_cons (de_var 3) (da_cons (de_callF c_law_of_2 hr (by first | decide | omega) T.g_law_of tk (da_cons (de_var 1) (da_cons (de_lst (da_cons de_int (da_cons de_int (da_cons de_int (da_cons de_int (da_cons (de_callF c_law_pull_2 hr (by first | decide | omega) T.g_law_pull tk (da_cons (de_var 1) (da_cons de_int da_nil))) da_nil)))))) da_nil))) da_nil)))))
    (dss_cons (ds_setLc (own := [("_law_at", 18)]) (i := 11) rfl sc_law.nd (di_seq (de_var 9)) (blkOk_by (N := N_law) (sc := defScope s_law) (by decide +kernel)) (fun _ _ _ _ _ => (dg_name (i := 18) sc_law.nd)) (fun _ _ _ _ _ => dts_nil) (fun _ _ _ _ _ => (de_callF c_law_go_4 hr (by first | decide | omega) T.g_law_go takes_none5 (da_cons (de_var 5) (da_cons (de_var 3) (da_cons (de_var 18) (da_cons (de_var 10) da_nil)))))) (by decide))
    (dss_cons (ds_set (i := 12) sc_law.nd (de_lstC (da_cons (de_callT dcb_tuple T.n_tuple (da_cons (de_callB dcb_sortI T.n_sorted (da_cons (de_callT (dcb_keys (c := false) rfl) T.n_list (da_cons (de_callT (dcb_dictP rfl) T.n_dict (da_cons (de_lc (own := [("_law_at", 18)]) rfl sc_law.nd (di_seq (de_var 11)) (blkOk_by (N := N_law) (sc := defScope s_law) (by decide +kernel)) (fun _ _ _ _ _ => (dg_name (i := 18) sc_law.nd)) (fun _ _ _ _ _ => dts_nil) (fun _ _ _ _ _ => (de_tup (da_cons (de_var 18) (da_cons de_int da_nil)))) (by decide)) da_nil)) da_nil)) da_nil)) da_nil)) (da_cons de_non da_nil))))
    (dss_cons (ds_if (dt_cmp (dop_eq hr.units) (de_ix (de_var 12) de_int) (de_var 9)) (dss_one (ds_asg (de_callT dcb_tuple T.n_tuple (da_cons (de_var 11) da_nil)) (dg_sub (de_var 12) de_int set_list set_imp))) dss_nil)
    (dss_cons (ds_set (i := 13) sc_law.nd (de_lst (da_cons (de_lam (l := lam_law_0) rfl hTB hco List.mem_cons_self tb_one rfl lt_law_0) (da_cons (de_lam (l := lam_law_1) rfl hTB hco List.mem_cons_self tb_one rfl lt_law_1) da_nil))))
    (dss_cons (ds_set (i := 14) sc_law.nd (de_tup (da_cons de_str (da_cons (de_tup (da_cons de_str (da_cons de_int da_nil))) da_nil))))
    (dss_cons (ds_if (dt_not (dt_tru (de_callF c_law_same_2 hr (by first | decide | omega) T.g_law_same tk (da_cons (de_give gv_law_all_got hF cells_above (hr.mono (by decide)) T.g_law_all_got gk_law_all_got gb_law_all_got (da_cons (de_var 13) da_nil)) (da_cons (de_lc (own := [("_law_one", 19)]) rfl sc_law.nd (di_seq (de_var 12)) (blkOk_by (N := N_law) (sc := defScope s_law) (by decide +kernel)) (fun _ _ _ _ _ => (dg_name (i := 19) sc_law.nd)) (fun _ _ _ _ _ => dts_nil) (fun _ _ _ _ _ => (de_if (dt_cmp dop_lt (de_callB (dcb_lenK K rfl) T.n_len (da_cons (de_var 8) da_nil)) de_int) (de_tup (da_cons de_str (da_cons (de_var 19) da_nil))) (de_var 14))) (by decide)) da_nil))))) (dss_one (ds_ret de_bl)) dss_nil)
    (dss_cons (ds_setLc (own := [("_law_at", 18)]) (i := 15) rfl sc_law.nd (di_range1 T.n_range (da_cons (de_var 4) da_nil)) (blkOk_by (N := N_law) (sc := defScope s_law) (by decide +kernel)) (fun _ _ _ _ _ => (dg_name (i := 18) sc_law.nd)) (fun _ _ _ _ _ => (dts_one (dt_cmp (dop_notinK K rfl) (de_var 18) (de_var 8)))) (fun _ _ _ _ _ => (de_var 18)) (by decide))
    (dss_cons (ds_set (i := 16) sc_law.nd (de_callF c_law_of_2 hr (by first | decide | omega) T.g_law_of tk (da_cons (de_var 1) (da_cons (de_lst (da_cons (de_tup da_nil) (da_cons de_non (da_cons (de_lst (da_cons (de_ix (de_var 8) de_int) da_nil)) (da_cons (de_tup (da_cons (de_ix (de_var 8) de_int) (da_cons (de_ix (de_var 8) de_int) da_nil))) (da_cons (de_tup (da_cons (de_ix (de_var 8) de_int) (da_cons (de_neg de_int) da_nil))) (da_cons (de_tup (da_cons de_bl da_nil)) (da_cons (de_tup (da_cons de_str da_nil)) (da_cons de_int (da_cons (de_bin dop_add (de_tup (da_cons (de_ix (de_var 8) de_int) da_nil)) (de_tup (da_cons (de_var 4) da_nil))) (da_cons (de_bin dop_add (de_callT dcb_tuple T.n_tuple (da_cons (de_revL (de_var 8)) da_nil)) (de_tup (da_cons (de_ix (de_var 8) (de_neg de_int)) da_nil))) (da_cons (de_if (dt_cmp (dop_ne hr.units) (de_var 15) (de_lst da_nil)) (de_tup (da_cons (de_ix (de_var 15) de_int) da_nil)) (de_tup da_nil)) da_nil)))))))))))) da_nil))))
    (dss_cons (ds_set (i := 17) sc_law.nd (de_callF c_law_of_2 hr (by first | decide | omega) T.g_law_of tk (da_cons (de_var 1) (da_cons (de_lst (da_cons de_non (da_cons de_str (da_cons de_int (da_cons (de_lst (da_cons (de_ix (de_var 3) de_int) da_nil)) da_nil))))) da_nil))))
    (dss_cons (ds_set (i := 13) sc_law.nd (de_lst (da_cons (de_lam (l := lam_law_2) rfl hTB hco List.mem_cons_self tb_one rfl lt_law_2) (da_cons (de_lam (l := lam_law_3) rfl hTB hco List.mem_cons_self tb_one rfl lt_law_3) da_nil))))
    (dss_cons (ds_set (i := 12) sc_law.nd (de_lstC (da_cons (de_tup (da_cons de_str (da_cons (de_tup (da_cons (de_var 16) da_nil)) da_nil))) (da_cons (de_tup (da_cons de_str (da_cons (de_tup (da_cons (de_var 17) da_nil)) da_nil))) da_nil))))
    (dss_one (ds_if (dt_not (dt_tru (de_callF c_law_same_2 hr (by first | decide | omega) T.g_law_same tk (da_cons (de_give gv_law_all_got hF cells_above (hr.mono (by decide)) T.g_law_all_got gk_law_all_got gb_law_all_got (da_cons (de_var 13) da_nil)) (da_cons (de_if (dt_cmp dop_lt (de_callB dcb_len T.n_len (da_cons (de_var 8) da_nil)) de_int) (de_var 12) (de_lst (da_cons (de_var 14) (da_cons (de_var 14) da_nil)))) da_nil))))) (dss_one (ds_ret de_bl)) dss_nil))))))))))))))))))))))
    (dss_one (ds_ret de_bl))))⟩
end
end DL.KL
namespace DL.KL
open PySem L2 DL NdefX
def dd_is_number : He.DefD := ⟨("is_number", none), "is_number", "is_number", defArgs s_is_number, defBody s_is_number, defScope s_is_number, [.non], []⟩
def dd_ascends : He.DefD := ⟨("ascends", none), "ascends", "ascends", defArgs s_ascends, defBody s_ascends, defScope s_ascends, [], []⟩
def dd_is_alphabet : He.DefD := ⟨("is_alphabet", none), "is_alphabet", "is_alphabet", defArgs s_is_alphabet, defBody s_is_alphabet, defScope s_is_alphabet, [], []⟩
def dd_is_word : He.DefD := ⟨("is_word", none), "is_word", "is_word", defArgs s_is_word, defBody s_is_word, defScope s_is_word, [], []⟩
def dd_need_alphabet : He.DefD := ⟨("need_alphabet", none), "need_alphabet", "need_alphabet", defArgs s_need_alphabet, defBody s_need_alphabet, defScope s_need_alphabet, [], []⟩
def dd_need_word : He.DefD := ⟨("need_word", none), "need_word", "need_word", defArgs s_need_word, defBody s_need_word, defScope s_need_word, [], []⟩
def dd_small_reach : He.DefD := ⟨("small_reach", none), "small_reach", "small_reach", defArgs s_small_reach, defBody s_small_reach, defScope s_small_reach, [], []⟩
def dd_is_set : He.DefD := ⟨("is_set", none), "is_set", "is_set", defArgs s_is_set, defBody s_is_set, defScope s_is_set, [], []⟩
def dd_need_set : He.DefD := ⟨("need_set", none), "need_set", "need_set", defArgs s_need_set, defBody s_need_set, defScope s_need_set, [], []⟩
def dd_led_set : He.DefD := ⟨("led_set", none), "led_set", "led_set", defArgs s_led_set, defBody s_led_set, defScope s_led_set, [], []⟩
def dd_image : He.DefD := ⟨("image", none), "image", "image", defArgs s_image, defBody s_image, defScope s_image, [], []⟩
def dd_turn : He.DefD := ⟨("turn", none), "turn", "turn", defArgs s_turn, defBody s_turn, defScope s_turn, [], []⟩
def dd_first_words : He.DefD := ⟨("first_words", none), "first_words", "first_words", defArgs s_first_words, defBody s_first_words, defScope s_first_words, [], []⟩
def dd_is_row : He.DefD := ⟨("is_row", none), "is_row", "is_row", defArgs s_is_row, defBody s_is_row, defScope s_is_row, [], []⟩
def dd_Machine_init : He.DefD := ⟨("Machine", some "__init__"), "__init__", "Machine.__init__", defArgs s_Machine_init, defBody s_Machine_init, defScope s_Machine_init, [], [("start", .int 0)]⟩
def pd_Machine_alphabet : DX.PrD := ⟨"Machine", "alphabet", "Machine.alphabet", defArgs s_Machine_alphabet, defBody s_Machine_alphabet, defScope s_Machine_alphabet⟩
def dd_Machine_need_state : He.DefD := ⟨("Machine", some "need_state"), "need_state", "Machine.need_state", defArgs s_Machine_need_state, defBody s_Machine_need_state, defScope s_Machine_need_state, [], []⟩
def dd_Machine_led : He.DefD := ⟨("Machine", some "led"), "led", "Machine.led", defArgs s_Machine_led, defBody s_Machine_led, defScope s_Machine_led, [], []⟩
def dd_Machine_words_to_states : He.DefD := ⟨("Machine", some "words_to_states"), "words_to_states", "Machine.words_to_states", defArgs s_Machine_words_to_states, defBody s_Machine_words_to_states, defScope s_Machine_words_to_states, [], []⟩
def dd_Machine_reachable : He.DefD := ⟨("Machine", some "reachable"), "reachable", "Machine.reachable", defArgs s_Machine_reachable, defBody s_Machine_reachable, defScope s_Machine_reachable, [], []⟩
def dd_law_bag : He.DefD := ⟨("_law_bag", none), "_law_bag", "_law_bag", defArgs s_law_bag, defBody s_law_bag, defScope s_law_bag, [], []⟩
def dd_law_pull : He.DefD := ⟨("_law_pull", none), "_law_pull", "_law_pull", defArgs s_law_pull, defBody s_law_pull, defScope s_law_pull, [], []⟩
def dd_law_of : He.DefD := ⟨("_law_of", none), "_law_of", "_law_of", defArgs s_law_of, defBody s_law_of, defScope s_law_of, [], []⟩
def dd_law_same : He.DefD := ⟨("_law_same", none), "_law_same", "_law_same", defArgs s_law_same, defBody s_law_same, defScope s_law_same, [], []⟩
def dd_law_field : He.DefD := ⟨("_law_field", none), "_law_field", "_law_field", defArgs s_law_field, defBody s_law_field, defScope s_law_field, [], []⟩
def dd_law_got : He.DefD := ⟨("_law_got", none), "_law_got", "_law_got", defArgs s_law_got, defBody s_law_got, defScope s_law_got, [], []⟩
def dd_law_all_got : He.DefD := ⟨("_law_all_got", none), "_law_all_got", "_law_all_got", defArgs s_law_all_got, defBody s_law_all_got, defScope s_law_all_got, [], []⟩
def dd_law_signs : He.DefD := ⟨("_law_signs", none), "_law_signs", "_law_signs", defArgs s_law_signs, defBody s_law_signs, defScope s_law_signs, [], []⟩
def dd_law_text : He.DefD := ⟨("_law_text", none), "_law_text", "_law_text", defArgs s_law_text, defBody s_law_text, defScope s_law_text, [], []⟩
def dd_law_goals : He.DefD := ⟨("_law_goals", none), "_law_goals", "_law_goals", defArgs s_law_goals, defBody s_law_goals, defScope s_law_goals, [], []⟩
def dd_law_go : He.DefD := ⟨("_law_go", none), "_law_go", "_law_go", defArgs s_law_go, defBody s_law_go, defScope s_law_go, [], []⟩
def dd_law_reach : He.DefD := ⟨("_law_reach", none), "_law_reach", "_law_reach", defArgs s_law_reach, defBody s_law_reach, defScope s_law_reach, [], []⟩
def dd_law : He.DefD := ⟨("law", none), "law", "law", defArgs s_law, defBody s_law, defScope s_law, [], []⟩
def fa : List He.Fa := ([.free "int", .free "isinstance", .free "bool", .free "zip", .free "all", .free "str", .free "len", .int "MOST_LETTERS" 4, .str "SMALL" "abcdefghijklmnopqrstuvwxyz", .glo "ascends"] : List He.Fa) ++ ([.glo "is_alphabet", .glo "InvalidAlphabet", .glo "is_word", .glo "InvalidWord", .int "MOST_BUILT" 6, .glo "TooMany", .free "tuple", .glo "is_number", .glo "small_reach", .glo "is_set"] : List He.Fa) ++ ([.glo "InvalidSet", .glo "need_set", .glo "need_word", .glo "led_set", .free "sorted", .free "set", .free "dict", .free "list", .glo "need_alphabet", .glo "InvalidRows"] : List He.Fa) ++ ([.int "MOST_STATES" 1000, .free "enumerate", .glo "is_row", .glo "InvalidState", .cls "Machine", .noat "Machine" "own_alphabet", .noat "Machine" "own_rows", .noat "Machine" "own_start", .glo "first_words", .free "abs"] : List He.Fa) ++ ([.glo "_law_pull", .glo "_law_same", .glo "AheadError", .glo "Missing", .glo "NothingLeft", .glo "_law_field", .glo "_law_got", .glo "_law_of", .free "range", .glo "_law_bag"] : List He.Fa) ++ ([.glo "_law_signs", .glo "_law_goals", .glo "Machine", .glo "_law_reach", .glo "_law_text", .glo "_law_go", .glo "image", .glo "turn", .glo "_law_all_got", .meth "Machine" "reachable"] : List He.Fa) ++ ([.meth "Machine" "led", .meth "Machine" "need_state", .meth "Machine" "words_to_states", .mkr "Machine", .free "super", .glo "law"] : List He.Fa)
def fn : List He.DefD := ([dd_is_number, dd_ascends, dd_is_alphabet, dd_is_word, dd_need_alphabet, dd_need_word, dd_small_reach, dd_is_set, dd_need_set, dd_led_set] : List He.DefD) ++ ([dd_image, dd_turn, dd_first_words, dd_is_row, dd_Machine_init, dd_Machine_need_state, dd_Machine_led, dd_Machine_words_to_states, dd_Machine_reachable, dd_law_bag] : List He.DefD) ++ ([dd_law_pull, dd_law_of, dd_law_same, dd_law_field, dd_law_got, dd_law_all_got, dd_law_signs, dd_law_text, dd_law_goals, dd_law_go] : List He.DefD) ++ ([dd_law_reach, dd_law] : List He.DefD)
def pr : List DX.PrD := [pd_Machine_alphabet]
abbrev hk : PySem.W.Hook := DX.hookZ 6 fa fn sd pr tf file ex
def ob (s : PySem.W.SharedT) : DX.AlZ := DX.obsZ 6 fa fn sd pr tf file ex (HandSHeadRun.getT s)
theorem ob_eq (s : PySem.W.SharedT) : ob s = hk.obs s.abs := DX.obsZ_eq (HandSHeadRun.getT_eq s)
def names : List PySem.Str := (["_wall", "AheadError", "Missing", "InvalidAlphabet", "InvalidWord", "InvalidState", "InvalidRows", "InvalidSet", "InvalidText", "TooMany", "NothingLeft", "SMALL"] : List PySem.Str) ++ (["MOST_LETTERS", "is_number", "ascends", "is_alphabet", "is_word", "need_alphabet", "need_word", "MOST_BUILT", "small_reach", "is_set", "need_set", "led_set"] : List PySem.Str) ++ (["image", "turn", "first_words", "FIGURES", "MOST_FIGURES", "number_in", "numbers_in", "rows_of", "words_of", "MOST_STATES", "is_row", "parts_in"] : List PySem.Str) ++ (["Machine", "_law_bag", "_law_pull", "_law_of", "_law_same", "_law_field", "_law_got", "_law_all_got", "_law_signs", "_law_text", "_law_goals", "_law_go"] : List PySem.Str) ++ (["_law_reach"] : List PySem.Str)
theorem run (w : World) : HandSHeadRun.RunEq R (PySem.W.view R.prog [56]) hk ob 8000 names w := by
  intro os
  kernel_rfl
theorem tx_of {P : Program} {K : PySem.W.Frag} {h : Heap} {mg : Str → Option Value} (hp1 : P.main.file = file) (hp2 : (P.main.scope.names.lookup ("super" : Str)).isSome = false) (X : K.In h) (G : h.Ns mainGlobals mg) (c : DX.SaysZ fa fn sd pr tf file ex h K) : Tx P K mg where
  pf := hp1
  ps := hp2
  sup := c.y.sup
  more := c.y.more
  n_int := He.free_ok X G (c.y.d.fact 0 (f := .free "int") rfl)
  n_isinstance := He.free_ok X G (c.y.d.fact 1 (f := .free "isinstance") rfl)
  n_bool := He.free_ok X G (c.y.d.fact 2 (f := .free "bool") rfl)
  n_zip := He.free_ok X G (c.y.d.fact 3 (f := .free "zip") rfl)
  n_all := He.free_ok X G (c.y.d.fact 4 (f := .free "all") rfl)
  n_str := He.free_ok X G (c.y.d.fact 5 (f := .free "str") rfl)
  n_len := He.free_ok X G (c.y.d.fact 6 (f := .free "len") rfl)
  i_MOST_LETTERS := He.int_ok X G (c.y.d.fact 7 (f := .int "MOST_LETTERS" 4) rfl)
  s_SMALL := He.str_ok X G (c.y.d.fact 8 (f := .str "SMALL" "abcdefghijklmnopqrstuvwxyz") rfl)
  g_ascends := He.glo_ok X G (c.y.d.fact 9 (f := .glo "ascends") rfl)
  g_is_alphabet := He.glo_ok X G (c.y.d.fact 10 (f := .glo "is_alphabet") rfl)
  g_InvalidAlphabet := He.glo_ok X G (c.y.d.fact 11 (f := .glo "InvalidAlphabet") rfl)
  g_is_word := He.glo_ok X G (c.y.d.fact 12 (f := .glo "is_word") rfl)
  g_InvalidWord := He.glo_ok X G (c.y.d.fact 13 (f := .glo "InvalidWord") rfl)
  i_MOST_BUILT := He.int_ok X G (c.y.d.fact 14 (f := .int "MOST_BUILT" 6) rfl)
  g_TooMany := He.glo_ok X G (c.y.d.fact 15 (f := .glo "TooMany") rfl)
  n_tuple := He.free_ok X G (c.y.d.fact 16 (f := .free "tuple") rfl)
  g_is_number := He.glo_ok X G (c.y.d.fact 17 (f := .glo "is_number") rfl)
  g_small_reach := He.glo_ok X G (c.y.d.fact 18 (f := .glo "small_reach") rfl)
  g_is_set := He.glo_ok X G (c.y.d.fact 19 (f := .glo "is_set") rfl)
  g_InvalidSet := He.glo_ok X G (c.y.d.fact 20 (f := .glo "InvalidSet") rfl)
  g_need_set := He.glo_ok X G (c.y.d.fact 21 (f := .glo "need_set") rfl)
  g_need_word := He.glo_ok X G (c.y.d.fact 22 (f := .glo "need_word") rfl)
  g_led_set := He.glo_ok X G (c.y.d.fact 23 (f := .glo "led_set") rfl)
  n_sorted := He.free_ok X G (c.y.d.fact 24 (f := .free "sorted") rfl)
  n_set := He.free_ok X G (c.y.d.fact 25 (f := .free "set") rfl)
  n_dict := He.free_ok X G (c.y.d.fact 26 (f := .free "dict") rfl)
  n_list := He.free_ok X G (c.y.d.fact 27 (f := .free "list") rfl)
  g_need_alphabet := He.glo_ok X G (c.y.d.fact 28 (f := .glo "need_alphabet") rfl)
  g_InvalidRows := He.glo_ok X G (c.y.d.fact 29 (f := .glo "InvalidRows") rfl)
  i_MOST_STATES := He.int_ok X G (c.y.d.fact 30 (f := .int "MOST_STATES" 1000) rfl)
  n_enumerate := He.free_ok X G (c.y.d.fact 31 (f := .free "enumerate") rfl)
  g_is_row := He.glo_ok X G (c.y.d.fact 32 (f := .glo "is_row") rfl)
  g_InvalidState := He.glo_ok X G (c.y.d.fact 33 (f := .glo "InvalidState") rfl)
  cl_Machine := He.cls_ok (c.y.d.fact 34 (f := .cls "Machine") rfl)
  na_Machine_own_alphabet := He.noat_ok (c.y.d.fact 35 (f := .noat "Machine" "own_alphabet") rfl)
  na_Machine_own_rows := He.noat_ok (c.y.d.fact 36 (f := .noat "Machine" "own_rows") rfl)
  na_Machine_own_start := He.noat_ok (c.y.d.fact 37 (f := .noat "Machine" "own_start") rfl)
  g_first_words := He.glo_ok X G (c.y.d.fact 38 (f := .glo "first_words") rfl)
  n_abs := He.free_ok X G (c.y.d.fact 39 (f := .free "abs") rfl)
  g_law_pull := He.glo_ok X G (c.y.d.fact 40 (f := .glo "_law_pull") rfl)
  g_law_same := He.glo_ok X G (c.y.d.fact 41 (f := .glo "_law_same") rfl)
  g_AheadError := He.glo_ok X G (c.y.d.fact 42 (f := .glo "AheadError") rfl)
  g_Missing := He.glo_ok X G (c.y.d.fact 43 (f := .glo "Missing") rfl)
  g_NothingLeft := He.glo_ok X G (c.y.d.fact 44 (f := .glo "NothingLeft") rfl)
  g_law_field := He.glo_ok X G (c.y.d.fact 45 (f := .glo "_law_field") rfl)
  g_law_got := He.glo_ok X G (c.y.d.fact 46 (f := .glo "_law_got") rfl)
  g_law_of := He.glo_ok X G (c.y.d.fact 47 (f := .glo "_law_of") rfl)
  n_range := He.free_ok X G (c.y.d.fact 48 (f := .free "range") rfl)
  g_law_bag := He.glo_ok X G (c.y.d.fact 49 (f := .glo "_law_bag") rfl)
  g_law_signs := He.glo_ok X G (c.y.d.fact 50 (f := .glo "_law_signs") rfl)
  g_law_goals := He.glo_ok X G (c.y.d.fact 51 (f := .glo "_law_goals") rfl)
  g_Machine := He.glo_ok X G (c.y.d.fact 52 (f := .glo "Machine") rfl)
  g_law_reach := He.glo_ok X G (c.y.d.fact 53 (f := .glo "_law_reach") rfl)
  g_law_text := He.glo_ok X G (c.y.d.fact 54 (f := .glo "_law_text") rfl)
  g_law_go := He.glo_ok X G (c.y.d.fact 55 (f := .glo "_law_go") rfl)
  g_image := He.glo_ok X G (c.y.d.fact 56 (f := .glo "image") rfl)
  g_turn := He.glo_ok X G (c.y.d.fact 57 (f := .glo "turn") rfl)
  g_law_all_got := He.glo_ok X G (c.y.d.fact 58 (f := .glo "_law_all_got") rfl)
  me_Machine_reachable := He.meth_ok (c.y.d.fact 59 (f := .meth "Machine" "reachable") rfl)
  me_Machine_led := He.meth_ok (c.y.d.fact 60 (f := .meth "Machine" "led") rfl)
  me_Machine_need_state := He.meth_ok (c.y.d.fact 61 (f := .meth "Machine" "need_state") rfl)
  me_Machine_words_to_states := He.meth_ok (c.y.d.fact 62 (f := .meth "Machine" "words_to_states") rfl)
  mk_Machine := He.mkr_ok (c.y.d.fact 63 (f := .mkr "Machine") rfl)
  n_super := He.free_ok X G (c.y.d.fact 64 (f := .free "super") rfl)
  d_is_number := c.y.d.def_ 0 (d := dd_is_number) rfl
  d_ascends := c.y.d.def_ 1 (d := dd_ascends) rfl
  d_is_alphabet := c.y.d.def_ 2 (d := dd_is_alphabet) rfl
  d_is_word := c.y.d.def_ 3 (d := dd_is_word) rfl
  d_need_alphabet := c.y.d.def_ 4 (d := dd_need_alphabet) rfl
  d_need_word := c.y.d.def_ 5 (d := dd_need_word) rfl
  d_small_reach := c.y.d.def_ 6 (d := dd_small_reach) rfl
  d_is_set := c.y.d.def_ 7 (d := dd_is_set) rfl
  d_need_set := c.y.d.def_ 8 (d := dd_need_set) rfl
  d_led_set := c.y.d.def_ 9 (d := dd_led_set) rfl
  d_image := c.y.d.def_ 10 (d := dd_image) rfl
  d_turn := c.y.d.def_ 11 (d := dd_turn) rfl
  d_first_words := c.y.d.def_ 12 (d := dd_first_words) rfl
  d_is_row := c.y.d.def_ 13 (d := dd_is_row) rfl
  d_Machine_init := c.y.d.def_ 14 (d := dd_Machine_init) rfl
  d_Machine_need_state := c.y.d.def_ 15 (d := dd_Machine_need_state) rfl
  d_Machine_led := c.y.d.def_ 16 (d := dd_Machine_led) rfl
  d_Machine_words_to_states := c.y.d.def_ 17 (d := dd_Machine_words_to_states) rfl
  d_Machine_reachable := c.y.d.def_ 18 (d := dd_Machine_reachable) rfl
  d_law_bag := c.y.d.def_ 19 (d := dd_law_bag) rfl
  d_law_pull := c.y.d.def_ 20 (d := dd_law_pull) rfl
  d_law_of := c.y.d.def_ 21 (d := dd_law_of) rfl
  d_law_same := c.y.d.def_ 22 (d := dd_law_same) rfl
  d_law_field := c.y.d.def_ 23 (d := dd_law_field) rfl
  d_law_got := c.y.d.def_ 24 (d := dd_law_got) rfl
  d_law_all_got := c.y.d.def_ 25 (d := dd_law_all_got) rfl
  d_law_signs := c.y.d.def_ 26 (d := dd_law_signs) rfl
  d_law_text := c.y.d.def_ 27 (d := dd_law_text) rfl
  d_law_goals := c.y.d.def_ 28 (d := dd_law_goals) rfl
  d_law_go := c.y.d.def_ 29 (d := dd_law_go) rfl
  d_law_reach := c.y.d.def_ 30 (d := dd_law_reach) rfl
  d_law := c.y.d.def_ 31 (d := dd_law) rfl
  d_Machine_alphabet := (DX.PrD.prop (d := pd_Machine_alphabet) (c.pr pd_Machine_alphabet List.mem_cons_self).1 (c.pr pd_Machine_alphabet List.mem_cons_self).2).2
  pr_Machine_alphabet := (DX.PrD.prop (d := pd_Machine_alphabet) (c.pr pd_Machine_alphabet List.mem_cons_self).1 (c.pr pd_Machine_alphabet List.mem_cons_self).2).1
theorem law_glo {K : PySem.W.Frag} {h : Heap} {mg : Str → Option Value} (X : K.In h) (G : h.Ns mainGlobals mg) (c : DX.SaysZ fa fn sd pr tf file ex h K) : mg "law" = some (.ref (He.ga K "law")) := He.glo_ok X G (c.y.d.fact 65 (f := .glo "law") rfl)
end DL.KL
open PySem PySem.W PySem.Calls PyProof.Rows
theorem PySem.Challenge.cw_onlyahead_k14_images_and_turns_of_words_holds : PySem.Challenge.rw_onlyahead_k14_images_and_turns_of_words.Holds := by
  w_on; o_law
  refine HandSHeadRun.head_any (r := OpenLaw.row PySem.Challenge.rw_onlyahead_k14_images_and_turns_of_words) (q := view (OpenLaw.row PySem.Challenge.rw_onlyahead_k14_images_and_turns_of_words).prog [56]) (H := DL.KL.hk) (ob := DL.KL.ob) (M := 8000) (loose := DL.KL.names) (d := HandSHeadRun.topDef (OpenLaw.row PySem.Challenge.rw_onlyahead_k14_images_and_turns_of_words).prog 56) (kwd := []) DL.KL.ob_eq
    (by kernel_rfl) (fun s => by kernel_rfl) DL.KL.run (by kernel_rfl) (by kernel_rfl) (by kernel_rfl) (by rfl) (by first | assumption | decide +kernel) (by decide +kernel) ⟨rfl, rfl, rfl, rfl, rfl, by decide +kernel⟩ ?hw ?hc
  case hw => w_witness2
  case hc =>
    refine LamX.walk_ofTsE (l := PySem.Challenge.rw_onlyahead_k14_images_and_turns_of_words) (n := 63) (k := 11) (x := "_law_script") (CX := fun w => L2.CX (PySem.Challenge.rw_onlyahead_k14_images_and_turns_of_words).prog w) rfl (by decide) (by kernel_rfl) ⟨rfl, by decide, by decide⟩ ?F ?cx
    case cx => exact fun w H s e s' h => DL.cx_none h
    case F =>
    intro w mg fa h Y G hmg0
    obtain ⟨K, KX, c⟩ := Y
    refine ⟨K, KX, ?_⟩
    have hmg : mg ("law" : PySem.Str) = some (.ref fa) := by
      have e : (HandSHeadRun.topDef (OpenLaw.row PySem.Challenge.rw_onlyahead_k14_images_and_turns_of_words).prog 56).name = ("law" : PySem.Str) := by kernel_rfl
      rw [← e]
      exact hmg0
    have e := hmg.symm.trans (DL.KL.law_glo KX G c)
    cases e
    have T := DL.KL.tx_of (P := (PySem.Challenge.rw_onlyahead_k14_images_and_turns_of_words).prog) rfl (by kernel_rfl) KX G c
    obtain ⟨fd, F⟩ := T.d_law
    refine ⟨fd, [He.cT K ("law", none)], @DL.spOf (DL.bas (DL.KL.tbs K)) (DL.sp_law K), fun p hp => by obtain rfl := List.mem_singleton.mp hp; exact c.y.empty ("law", none) List.mem_cons_self, fun p hp => by obtain rfl := List.mem_singleton.mp hp; exact c.y.out ("law", none) List.mem_cons_self, fun p hp => by obtain rfl := List.mem_singleton.mp hp; exact PySem.W.codeHd_of_K KX (c.y.hd ("law", none) List.mem_cons_self), ?_, ?_, ?_⟩
    · have b := L2.FunD.bindsA (ps := ["_law_script"]) F fun _ _ _ _ _ _ us hl => match us, hl with | [_], _ => rfl
      exact fun s v => b s [v] rfl
    · exact fun H a ns hl hbits hT hS => by
        letI : DL.Tabl := DL.bas (DL.KL.tbs K)
        haveI : DL.NoTab := ⟨rfl, fun _ _ h => h⟩
        refine DL.start_law hl hbits hS fun p hp => ?_
        obtain rfl := List.mem_singleton.mp hp
        exact LamX.TabS.nil (hT (He.cT K ("law", none)) List.mem_cons_self)
    · intro base _ _ hB
      obtain ⟨fd2, F2, G2⟩ := DL.KL.ok_law (P := (PySem.Challenge.rw_onlyahead_k14_images_and_turns_of_words).prog) (w := w) T base (hB (He.cT K ("law", none)) List.mem_cons_self)
      cases DL.funD_one F F2
      exact G2
